import PyProof.Rows.All
import Wide.All
import OpenK.AllK
import Wide.FinOn
import KE.KStateDown
import Lean
import HandS.ForMost
import HandS.Exc
import HandS.TryOnly
import HandS.ExcOwn
import HandS.WordsExc
import HandS.Wide
import HandS.IsInst
import HandS.Evl
import HandS.SortInts
import HandS.Small
import HandS.Style
import PyProof.MaxThree
import HandS.Defaults
import HandS.Head0
import HandS.Head1
import HandS.Head2
import HandS.HeadEnd
import HandS.HeadHook1
import HandS.HeadHook2
import PyProof.ReprRoads
import HandS.Walk
import HandS.Star
import HandS.Conv
import HandS.ExcIs
import HandS.ExcField
import HandS.ExcValue
import KE.KExcIs
import HandS.ExcInit
import HandS.Property
import HandS.Remove
import HandS.HeadHook3
import KE.GoesEnum
import HandS.RaiseMore
import HandS.Deep
import PySem.Challenge.RW_backslots_k44_whole_lists_are_never_bett
set_option Elab.async false
set_option linter.all false
set_option maxRecDepth 100000
set_option maxHeartbeats 4000000
namespace Bs
open PySem PySem.Spec PyProof.Rows L2
open Evl (Ex)

/-! ### a def without defaults -/
abbrev FnP (K : PySem.W.Frag) (x q : Str) (st : Stmt) (f : Addr) (fd : FuncData) : Prop := FunD K x q (defArgs st) (defBody st) (defScope st) [] [] f fd

/-! ### heaps that grow -/
theorem exn {H : Hp} {p : Addr} {o : HO} (h : H p = none) : Ex H (upd H p o) := Ex.new h
theorem dp_ex {K : PySem.W.Frag} {H H' : Hp} (e : Ex H H') : ∀ (d : PyData) (v : V), Dp K H v d → Dp K H' v d
  | .none, _, .non => .non
  | .bool _, _, .bl b => .bl b
  | .int _, _, .int i => .int i
  | .str _, _, .str x => .str x
  | .list ds, _, .lst h a => .lst (Evl.ex_l e h) (go ds _ a)
  | .tuple ds, _, .tup h a => .tup (Evl.ex_t e h) (go ds _ a)
where go : ∀ (ds : List PyData) (vs : List V), DpAll K H vs ds → DpAll K H' vs ds
  | [], _, .nil => .nil
  | d :: ds, _, .cons h r => .cons (dp_ex e d _ h) (go ds _ r)

/-! ### defs called where no repr is under way -/
abbrev Clean (A : Around) : Prop := A.guards = some []
/-- as FnOk, where no repr is under way -/
structure GOk (P : Program) (w : World) (K : PySem.W.Frag) (mg : Str → Option Value) (base : Heap)
    (C : CXT) (k : Nat) (f : Addr) (fd : FuncData) (ps : List Str) (sp : Sp) : Prop where
  arity : ∀ vs H Q E, sp vs H Q E → vs.length = ps.length
  go : ∀ (A : Around) (fr : List Env) (s : Shared) (H : Hp) (args : Args) (us : List Value) (vs : List V) (Q : VK) (E : XK),
    Room k A → Clean A → Env0 P w K mg base A fr s H → BindsTo s fd args (ps.zip us) → Vals vs us →
    sp vs H Q E → codeAny (model P w) A (.call (.ref f) args) (CR C fr P w H s Q E) s
section
variable {P : Program} {w : World} {K : PySem.W.Frag} {mg : Str → Option Value} {base : Heap} {C : CXT} {k j : Nat}
  {f : Addr} {fd : FuncData} {ps N : List Str} {sp sp' : Sp}
theorem GOk.up (F : GOk P w K mg base C j f fd ps sp) (h : j ≤ k) : GOk P w K mg base C k f fd ps sp :=
  ⟨F.arity, fun A fr s H args us vs Q E r => F.go A fr s H args us vs Q E (r.mono h)⟩
theorem GOk.weak (F : GOk P w K mg base C k f fd ps sp) (h : ∀ vs H Q E, sp' vs H Q E → sp vs H Q E) : GOk P w K mg base C k f fd ps sp' :=
  ⟨fun vs H Q E q => F.arity vs H Q E (h _ _ _ _ q), fun A fr s H args us vs Q E r g e b v q => F.go A fr s H args us vs Q E r g e b v (h _ _ _ _ q)⟩
/-- a def by its body, no repr under way -/
theorem gok_of {name qual : Str} {pr : Arguments} {body : List Stmt} {scope : Scope} {dV kV doc pm cdv ct oc : Value} {an od : Option Addr} {osl : Array (Option Value)}
    (lk : K.lookup f = some ⟨oc, od, .func (PySem.W.fnOf name qual pr body scope dV kV doc pm an cdv ct), osl⟩)
    (hcd : PySem.W.codeIn K cdv qual = true) (S : FnScope N ps scope)
    (ar : ∀ vs H Q E, sp vs H Q E → vs.length = ps.length)
    (hb : ∀ (A : Around) (fr : List Env) (s : Shared) (H : Hp) (vs : List V) (Q : VK) (E : XK),
      Room k (A.deeper (envOfC qual scope s.heap.objs.size f cdv)) → Clean A → sp vs H Q E →
      ∃ t, PSs (cxOf C P w K mg base N qual scope f cdv A fr s H E) body t ∧
        t { nx := fun _ H' => Q .non H', rt := Q } (start N vs) H) :
    GOk P w K mg base C (k + 1) f (PySem.W.fnOf name qual pr body scope dV kV doc pm an cdv ct) ps sp := by
  refine ⟨ar, ?_⟩
  intro A fr s H args us vs Q E hr hg e0 bd rv hsp
  have in0 : ∀ b o, base.get? b = some o → s.heap.get? b = some o := fun b o e => (e0.bs b o e).1
  have inK : K.In s.heap := e0.mod.kin.keeps in0
  refine codeAny_call_function hr.depth (inK _ _ lk) rfl S.co S.gen rfl (PySem.W.codeRec_of inK hcd) (bd _ _ _ _ ?_)
  have kinds : ∀ y ∈ ps.zip us, scope.names.lookup y.1 = some .local ∨
      (scope.names.lookup y.1 = some .cell ∧ ((cellsFrom (s.heap.objs.size + 1) scope.names []).lookup y.1).isSome = true) := by
    rintro ⟨n, v⟩ hy
    exact (S.par n (List.of_mem_zip hy).1).imp id fun q => ⟨q, PySem.W.cellsFrom_some _ _ _ (.inl q)⟩
  refine wpAny_newFunctionEnv_cells S.kind kinds ?_
  intro env he s1 x
  subst he
  refine ⟨(e0.mod.nolimit.keeps in0).keeps x.toInCall.keep, codeAny_func ?_⟩
  obtain ⟨t, ht, hq⟩ := hb A fr s H vs Q E (hr.deeper _) hg hsp
  have I0 := inv_start (CX := C) (E := E) S hr.hd e0 (ar _ _ _ _ hsp) rv x
  refine wpAny_mono (ht.run [] s1 (start N vs) H _ I0 hq) ?_ (fun _ _ z => z)
  intro fl s' z
  cases fl with
  | next => obtain ⟨_, H', J, q⟩ := z; exact ⟨.non, H', J.os, J.bare, J.base, J.hok, rfl, q⟩
  | ret u => obtain ⟨v, _, H', J, r, q⟩ := z; exact ⟨v, H', J.os, J.bare, J.base, J.hok, r, q⟩
  | brk => exact z.elim fun _ z => z.elim fun _ z => z.2.elim
  | cont => exact z.elim fun _ z => z.elim fun _ z => z.2.elim
theorem FunD.gok {x qual : Str} {pr : Arguments} {body : List Stmt} {scope : Scope} {dvs : List V} {kws : List (Str × V)}
    (F : FunD K x qual pr body scope dvs kws f fd) (S : FnScope N ps scope) (ar : ∀ vs H Q E, sp vs H Q E → vs.length = ps.length)
    (hb : ∀ (cdv : Value) (A : Around) (fr : List Env) (s : Shared) (H : Hp) (vs : List V) (Q : VK) (E : XK),
      Room k (A.deeper (envOfC qual scope s.heap.objs.size f cdv)) → Clean A → sp vs H Q E →
      ∃ t, PSs (cxOf C P w K mg base N qual scope f cdv A fr s H E) body t ∧
        t { nx := fun _ H' => Q .non H', rt := Q } (start N vs) H) :
    GOk P w K mg base C (k + 1) f fd ps sp := by
  obtain ⟨oc, od, dV, kV, doc, pm, an, cdv, ct, osl, rfl, lk, hcd, _, _⟩ := F.ex
  exact gok_of lk hcd S ar (hb cdv)
end
section
variable {X : Cx} {C : CXT} {k : Nat} {f Cl : Addr} {fd : FuncData} {ps : List Str} {sp : Sp} {dvs : List V} {ds : List Value} {E : XK}
  {x m : Str} {p pos apos : Pos} {e o : Expr} {es : List Expr} {ta : TE} {t : TA}
/-- the callee runs, no repr under way -/
theorem run_g {pins : List (Addr × Obj)} {σ : L2.St} {H : Hp} {s : Shared} {Q : VK} {us : List Value} {vs : List V}
    (F : GOk X.prog X.w X.K X.mg X.base C k f fd ps sp) (hr : Room k X.A) (hc : Clean X.A) (hb : Binds X.K fd ps ds) (hd : Vals dvs ds)
    (hx : Passes C X E) (I : Inv X pins σ H s) (r : Vals vs us) (h : sp (vs ++ dvs) H Q E) :
    wpAny (model X.prog X.w) X.A (call (.ref f) us) (EP X pins σ Q) X.xe s := by
  have rr := r.append hd
  have len : (us ++ ds).length = ps.length := rr.length ▸ F.arity _ _ _ _ h
  have one := F.go X.A X.stack s H ⟨us, []⟩ (us ++ ds) (vs ++ dvs) Q E hr hc I.env0 (hb s us I.kIn len) rr h
  refine wpAny_call (codeAny_mono one ?_)
  rintro (e | fl) s' z
  · exact hx pins σ H s e s' I z
  · cases fl with
    | ret u => exact I.after z
    | _ => exact z.elim
theorem pe_callG (F : GOk X.prog X.w X.K X.mg X.base C k f fd ps sp) (hr : Room k X.A) (hc : Clean X.A) (hg : Gl X x) (hm : X.mg x = some (.ref f))
    (hk : PySem.W.keepIn X.K (.ref f) = true) (hb : Binds X.K fd ps ds) (hd : Vals dvs ds) (hx : Passes C X E) (ha : PA X (e :: es) t)
    (hdb : (x == ("__debug__" : Str)) = false := by decide)
    (he : starEach (e :: es) X.env = (false, eval e X.env) :: starEach es X.env := by rfl)
    (hpl : (backTo pos (starEach es X.env)).any (·.1) = false := by rfl) :
    PE X (.Call (.Name x p) (e :: es) [] pos) (tCall sp dvs E t) :=
  ⟨fun pins s σ H Q I h => wpAny_Call_Name_kw (ld_glob I hg hm (PySem.W.callWith_K (h₀ := X.base) I.ok.mod.kin hk
    (thn (ha.run pos pins s σ H _ I h) fun _ _ ⟨_, _, I1, r, q⟩ => ⟨I1.kIn, run_g F hr hc hb hd hx I1 r q⟩) he hpl) hdb)⟩
theorem pe_callG0 (F : GOk X.prog X.w X.K X.mg X.base C k f fd ps sp) (hr : Room k X.A) (hc : Clean X.A) (hg : Gl X x) (hm : X.mg x = some (.ref f))
    (hk : PySem.W.keepIn X.K (.ref f) = true) (hb : Binds X.K fd ps ds) (hd : Vals dvs ds) (hx : Passes C X E)
    (hdb : (x == ("__debug__" : Str)) = false := by decide) : PE X (.Call (.Name x p) [] [] pos) (tCall sp dvs E tNil) :=
  ⟨fun pins s σ H Q I h => wpAny_Call_Name_kw (ld_glob I hg hm (PySem.W.callWith_K0 I.kIn hk (run_g (us := []) F hr hc hb hd hx I .nil h)) hdb)⟩
end

/-! ### data whose text is no matter -/
mutual
def fine : Nat → PyData → Bool
  | _, .none => true
  | _, .bool _ => true
  | _, .int i => decide (i.natAbs.log2 < 1900)
  | _, .str x => PyData.strOk x
  | n + 1, .list xs => fineAll n xs
  | n + 1, .tuple xs => fineAll n xs
  | 0, .list _ => false
  | 0, .tuple _ => false
  | _, .dict _ => false
def fineAll : Nat → List PyData → Bool
  | _, [] => true
  | n, x :: xs => fine n x && fineAll n xs
end
mutual
def sz : PyData → Nat
  | .none => 5
  | .bool _ => 5
  | .int _ => 2000
  | .str x => 10 * x.length + 2
  | .list xs => szAll xs + 3
  | .tuple xs => szAll xs + 3
  | .dict _ => 0
def szAll : List PyData → Nat
  | [] => 0
  | x :: xs => sz x + 2 + szAll xs
end
mutual
theorem fine_ok : ∀ (d : PyData) (n : Nat), fine n d = true → d.showable = true ∧ d.hasDict = false ∧ d.depth ≤ n ∧ d.shown.length ≤ sz d
  | .none, n, _ => ⟨rfl, rfl, Nat.zero_le _, by show Str.length (PyData.shown .none) ≤ 5; decide⟩
  | .bool b, n, _ => ⟨rfl, rfl, Nat.zero_le _, by cases b <;> (show Str.length (PyData.shown (.bool _)) ≤ 5; decide)⟩
  | .int i, n, h => by
    have h1 : i.natAbs.log2 < 1900 := by simpa only [fine, decide_eq_true_eq] using h
    refine ⟨by simp only [PyData.showable, decide_eq_true_eq]; omega, rfl, Nat.zero_le _, ?_⟩
    have h2 := int_text_length_le (k := 1900) (by decide) h1
    show (Str.ofString (toString i)).length ≤ 2000
    rw [PySem.ofString_length]
    omega
  | .str x, n, h => by
    have h1 : ∀ c ∈ x.cps.toList, c < 16 ^ 8 := by
      have h2 : x.cps.all (· < 0x110000) = true := by rw [fine] at h; exact h
      rw [← Array.all_toList, List.all_eq_true] at h2
      intro c hc
      have := of_decide_eq_true (h2 c hc)
      omega
    exact ⟨rfl, rfl, Nat.zero_le _, StrLaws.reprText_len x h1⟩
  | .list xs, n + 1, h => by
    obtain ⟨h1, h2, h3, h4⟩ := fineAll_ok xs n (by simpa only [fine] using h)
    refine ⟨by simpa only [PyData.showable] using h1, by simpa only [PyData.hasDict] using h2, by simp only [PyData.depth]; omega, ?_⟩
    have := listText_len_le (PyData.shownAll xs)
    simp only [PyData.shown, sz]
    omega
  | .tuple xs, n + 1, h => by
    obtain ⟨h1, h2, h3, h4⟩ := fineAll_ok xs n (by simpa only [fine] using h)
    refine ⟨by simpa only [PyData.showable] using h1, by simpa only [PyData.hasDict] using h2, by simp only [PyData.depth]; omega, ?_⟩
    have := tupleText_len_le (PyData.shownAll xs)
    simp only [PyData.shown, sz]
    omega
  | .list _, 0, h => by simp [fine] at h
  | .tuple _, 0, h => by simp [fine] at h
  | .dict _, n, h => by cases n <;> simp [fine] at h
theorem fineAll_ok : ∀ (xs : List PyData) (n : Nat), fineAll n xs = true → PyData.showableAll xs = true ∧ PyData.hasDictAll xs = false ∧ PyData.depthAll xs ≤ n ∧ ((PyData.shownAll xs).map (·.length)).sum + 2 * (PyData.shownAll xs).length ≤ szAll xs
  | [], n, _ => ⟨rfl, rfl, Nat.zero_le _, by simp [PyData.shownAll, szAll]⟩
  | x :: xs, n, h => by
    obtain ⟨ha, hb⟩ := Bool.and_eq_true_iff.mp (show (fine n x && fineAll n xs) = true by simpa only [fineAll] using h)
    obtain ⟨a1, a2, a3, a4⟩ := fine_ok x n ha
    obtain ⟨b1, b2, b3, b4⟩ := fineAll_ok xs n hb
    refine ⟨by simp only [PyData.showableAll, a1, b1, Bool.and_true], by simp only [PyData.hasDictAll, a2, b2, Bool.or_false], by simp only [PyData.depthAll]; omega, ?_⟩
    simp only [PyData.shownAll, szAll, List.map_cons, List.sum_cons, List.length_cons]
    omega
end
mutual
theorem fine_can : ∀ (d : PyData) (n : Nat), fine n d = true → d.canLay0 = true
  | .none, _, _ => rfl
  | .bool _, _, _ => rfl
  | .int _, _, _ => rfl
  | .str x, _, h => by rw [fine] at h; rw [PyData.canLay0]; exact h
  | .list xs, n + 1, h => by
    have := fineAll_can xs n (by simpa only [fine] using h)
    simpa only [PyData.canLay0] using this
  | .tuple xs, n + 1, h => by
    have := fineAll_can xs n (by simpa only [fine] using h)
    simpa only [PyData.canLay0] using this
  | .list _, 0, h => by simp [fine] at h
  | .tuple _, 0, h => by simp [fine] at h
  | .dict _, n, h => by cases n <;> simp [fine] at h
theorem fineAll_can : ∀ (xs : List PyData) (n : Nat), fineAll n xs = true → PyData.canLayAll0 xs = true
  | [], _, _ => rfl
  | x :: xs, n, h => by
    obtain ⟨ha, hb⟩ := Bool.and_eq_true_iff.mp (show (fine n x && fineAll n xs) = true by simpa only [fineAll] using h)
    simp only [PyData.canLayAll0, fine_can x n ha, fineAll_can xs n hb, Bool.and_self]
end
theorem fine_shaped {d : PyData} (h : fine 20 d = true) : SeqAt.shaped d = true := by
  unfold SeqAt.shaped
  rw [fine_can d 20 h, Bool.true_and, decide_eq_true_eq]
  have := (fine_ok d 20 h).2.2.1
  omega
/-! no bool in it -/
mutual
def nb : PyData → Bool
  | .bool _ => false
  | .dict _ => false
  | .list xs => nbAll xs
  | .tuple xs => nbAll xs
  | _ => true
def nbAll : List PyData → Bool
  | [] => true
  | x :: xs => nb x && nbAll xs
end
mutual
theorem eqv_nb : ∀ (d e : PyData), nb d = true → nb e = true → PyData.eqv d e = true → d = e
  | .none, .none, _, _, _ => rfl
  | .int i, .int j, _, _, h => by rw [PyData.eqv, beq_iff_eq] at h; rw [h]
  | .str x, .str y, _, _, h => by rw [PyData.eqv, beq_iff_eq] at h; rw [h]
  | .list xs, .list ys, h1, h2, h => by rw [eqvAll_nb xs ys (by simpa only [nb] using h1) (by simpa only [nb] using h2) (by simpa only [PyData.eqv] using h)]
  | .tuple xs, .tuple ys, h1, h2, h => by rw [eqvAll_nb xs ys (by simpa only [nb] using h1) (by simpa only [nb] using h2) (by simpa only [PyData.eqv] using h)]
  | .bool _, _, h1, _, _ => by simp [nb] at h1
  | .dict _, _, h1, _, _ => by simp [nb] at h1
  | .none, .bool _, _, _, h => by simp [PyData.eqv] at h
  | .none, .int _, _, _, h => by simp [PyData.eqv] at h
  | .none, .str _, _, _, h => by simp [PyData.eqv] at h
  | .none, .list _, _, _, h => by simp [PyData.eqv] at h
  | .none, .tuple _, _, _, h => by simp [PyData.eqv] at h
  | .none, .dict _, _, _, h => by simp [PyData.eqv] at h
  | .int _, .none, _, _, h => by simp [PyData.eqv] at h
  | .int _, .bool _, _, h2, _ => by simp [nb] at h2
  | .int _, .str _, _, _, h => by simp [PyData.eqv] at h
  | .int _, .list _, _, _, h => by simp [PyData.eqv] at h
  | .int _, .tuple _, _, _, h => by simp [PyData.eqv] at h
  | .int _, .dict _, _, _, h => by simp [PyData.eqv] at h
  | .str _, .none, _, _, h => by simp [PyData.eqv] at h
  | .str _, .bool _, _, _, h => by simp [PyData.eqv] at h
  | .str _, .int _, _, _, h => by simp [PyData.eqv] at h
  | .str _, .list _, _, _, h => by simp [PyData.eqv] at h
  | .str _, .tuple _, _, _, h => by simp [PyData.eqv] at h
  | .str _, .dict _, _, _, h => by simp [PyData.eqv] at h
  | .list _, .none, _, _, h => by simp [PyData.eqv] at h
  | .list _, .bool _, _, _, h => by simp [PyData.eqv] at h
  | .list _, .int _, _, _, h => by simp [PyData.eqv] at h
  | .list _, .str _, _, _, h => by simp [PyData.eqv] at h
  | .list _, .tuple _, _, _, h => by simp [PyData.eqv] at h
  | .list _, .dict _, _, _, h => by simp [PyData.eqv] at h
  | .tuple _, .none, _, _, h => by simp [PyData.eqv] at h
  | .tuple _, .bool _, _, _, h => by simp [PyData.eqv] at h
  | .tuple _, .int _, _, _, h => by simp [PyData.eqv] at h
  | .tuple _, .str _, _, _, h => by simp [PyData.eqv] at h
  | .tuple _, .list _, _, _, h => by simp [PyData.eqv] at h
  | .tuple _, .dict _, _, _, h => by simp [PyData.eqv] at h
theorem eqvAll_nb : ∀ (xs ys : List PyData), nbAll xs = true → nbAll ys = true → PyData.eqvAll xs ys = true → xs = ys
  | [], [], _, _, _ => rfl
  | [], _ :: _, _, _, h => by simp [PyData.eqvAll] at h
  | _ :: _, [], _, _, h => by simp [PyData.eqvAll] at h
  | x :: xs, y :: ys, h1, h2, h => by
    obtain ⟨a1, a2⟩ := Bool.and_eq_true_iff.mp (show (nb x && nbAll xs) = true by simpa only [nbAll] using h1)
    obtain ⟨b1, b2⟩ := Bool.and_eq_true_iff.mp (show (nb y && nbAll ys) = true by simpa only [nbAll] using h2)
    obtain ⟨c1, c2⟩ := Bool.and_eq_true_iff.mp (show (PyData.eqv x y && PyData.eqvAll xs ys) = true by simpa only [PyData.eqvAll] using h)
    rw [eqv_nb x y a1 b1 c1, eqvAll_nb xs ys a2 b2 c2]
end
theorem eqv_ne {d e : PyData} (h1 : nb d = true) (h2 : nb e = true) (h : d ≠ e) : PyData.eqv d e = false := by
  cases q : PyData.eqv d e with
  | false => rfl
  | true => exact absurd (eqv_nb d e h1 h2 q) h
theorem eqv_same {d : PyData} (h : fine 20 d = true) : PyData.eqv d d = true := SeqAt.eqv_refl _ (fine_can d 20 h)
theorem nbAll_ints : ∀ {ns : List Int}, nbAll (ns.map PyData.int) = true
  | [] => rfl
  | _ :: ns => by
    have := nbAll_ints (ns := ns)
    simp only [List.map_cons, nbAll, nb, this, Bool.and_self]
theorem fineAll_ints {n : Nat} : ∀ {ns : List Int}, (∀ i ∈ ns, i.natAbs.log2 < 1900) → fineAll n (ns.map PyData.int) = true
  | [], _ => by simp only [List.map_nil, fineAll]
  | i :: ns, h => by
    have h1 := h i List.mem_cons_self
    have h2 := fineAll_ints (n := n) (ns := ns) fun j hj => h j (List.mem_cons_of_mem _ hj)
    simp only [List.map_cons, fineAll, fine, h2, Bool.and_true, decide_eq_true_eq]
    exact h1
theorem szAll_ints : ∀ {ns : List Int}, szAll (ns.map PyData.int) = 2002 * ns.length
  | [] => by simp [szAll]
  | i :: ns => by
    have := szAll_ints (ns := ns)
    simp only [List.map_cons, szAll, sz, List.length_cons]
    omega

/-! ### rules -/
section
variable {X : Cx}
/-- a great number: a bound that no number here comes to -/
def BIG : Int := 2 ^ 100000
theorem big_200 : (10 : Int) ^ 200 ≤ BIG := by
  unfold BIG
  exact Int.le_trans (by decide : (10 : Int) ^ 200 ≤ 2 ^ 700) (Int.ofNat_le.mpr (Nat.pow_le_pow_right (by decide) (by decide : 700 ≤ 100000)))
theorem big_log {i : Int} (h : -BIG < i) (h2 : i < BIG) : i.natAbs.log2 < 100000 := by
  have e : i.natAbs < 2 ^ 100000 := by
    unfold BIG at h h2
    generalize hn : (2 : Nat) ^ 100000 = n at *
    have e : ((2 : Int) ^ 100000) = (n : Int) := by rw [← hn, Int.natCast_pow] <;> rfl
    rw [e] at h h2
    omega
  exact PySem.Flt.log2_lt_of (by decide) e
def CMulB (i j : Int) : Prop := (-BIG < i ∧ i < BIG) ∧ (-BIG < j ∧ j < BIG)
def CDivB (_ j : Int) : Prop := 0 < j ∧ j ≤ 10 ^ 200
theorem op_mulB : OpR X (binaryOp .Mult) (rI CMulB fun i j => .int (i * j)) := opI fun i j _ _ _ _ _ hc q => by
  refine mul_int q (CMulW.ok ?_)
  have h1 := big_log hc.1.1 hc.1.2
  have h2 := big_log hc.2.1 hc.2.2
  unfold CMulW
  omega
theorem iop_mulB : OpR X (inplaceOp .Mult) (rI CMulB fun i j => .int (i * j)) := opI fun i j _ _ _ _ _ hc q => by
  refine imul_int q (CMulW.ok ?_)
  have h1 := big_log hc.1.1 hc.1.2
  have h2 := big_log hc.2.1 hc.2.2
  unfold CMulW
  omega
theorem op_divB : OpR X (binaryOp .FloorDiv) (rI CDivB fun i j => .int (i / j)) := opI fun i j _ _ _ _ _ hc q => by
  obtain ⟨h1, h2⟩ := hc
  have e : j.natAbs < 2 ^ 700 := by
    have : (10 : Int) ^ 200 < 2 ^ 700 := by decide
    generalize hn : (2 : Nat) ^ 700 = n at *
    have e : ((2 : Int) ^ 700) = (n : Int) := by rw [← hn, Int.natCast_pow] <;> rfl
    rw [e] at this
    omega
  exact floordiv_int (by omega) (by rw [Int.fdiv_eq_ediv_of_nonneg i (by omega)]; exact q) (.inl (PyProof.noPylong_of_log2 (Nat.lt_trans (PySem.Flt.log2_lt_of (by decide) e) (by decide))))
/-- a power of a great int -/
def CPowW (i j : Int) : Prop := 0 ≤ j ∧ j ≤ 100 ∧ -BIG < i ∧ i < BIG
theorem op_powB : OpR X (binaryOp .Pow) (rI CPowW fun i j => .int (i ^ j.toNat)) := opI fun i j _ _ _ _ _ hc q => by
  obtain ⟨h1, h2, h3, h4⟩ := hc
  refine pow_int h1 ?_ q
  have b : Builtin.Int.intBits i ≤ 100000 := by
    unfold Builtin.Int.intBits
    split
    · omega
    · have := big_log h3 h4
      omega
  have b2 : ((Builtin.Int.intBits i : Nat) : Int) ≤ 100000 := by omega
  calc ((Builtin.Int.intBits i : Nat) : Int) * j ≤ 100000 * j := Int.mul_le_mul_of_nonneg_right b2 h1
    _ ≤ 100000 * 100 := Int.mul_le_mul_of_nonneg_left h2 (by decide)
    _ ≤ 2 ^ 27 := by decide
/-- a power of a small int -/
def CPowC (i j : Int) : Prop := 0 ≤ j ∧ j ≤ 1000 ∧ -(10 ^ 18) < i ∧ i < 10 ^ 18
theorem op_powC : OpR X (binaryOp .Pow) (rI CPowC fun i j => .int (i ^ j.toNat)) := opI fun i j _ _ _ _ _ hc q => pow_int_small hc.1 (by have := hc.2.1; omega) (by have h1 := hc.2.2.1; have h2 := hc.2.2.2; omega) q
/-- a number whose text is no matter -/
def MED : Int := 2 ^ 1900
theorem med_200 : (10 : Int) ^ 200 ≤ MED := by
  unfold MED
  exact Int.le_trans (by decide : (10 : Int) ^ 200 ≤ 2 ^ 700) (Int.ofNat_le.mpr (Nat.pow_le_pow_right (by decide) (by decide : 700 ≤ 1900)))
theorem med_log {i : Int} (h : -MED < i) (h2 : i < MED) : i.natAbs.log2 < 1900 := by
  have e : i.natAbs < 2 ^ 1900 := by
    unfold MED at h h2
    generalize hn : (2 : Nat) ^ 1900 = n at *
    have e : ((2 : Int) ^ 1900) = (n : Int) := by rw [← hn, Int.natCast_pow] <;> rfl
    rw [e] at h h2
    omega
  exact PySem.Flt.log2_lt_of (by decide) e
def rReprI : List V → Hp → VK → Prop := fun xs H Q => ∃ i, xs = [.int i] ∧ (-MED < i ∧ i < MED) ∧ Q (.str (toString i)) H
theorem call_repr_I : CallR X (.builtin "repr") rReprI := by
  intro pins s σ H xs us Q I r h
  obtain ⟨i, rfl, hb, q⟩ := h
  cases r with
  | cons r0 r1 =>
  cases r1
  obtain ⟨t, rfl⟩ := r0
  exact P.repr_of_int (Nat.lt_trans (med_log hb.1 hb.2) (by decide)) ⟨.str _, H, I.tok _, ⟨_, rfl⟩, q⟩
theorem call_str_I : CallR X (.type "str") rReprI := fun pins s σ H xs us Q I r h => call_str_int pins s σ H xs us Q I r (by
  obtain ⟨i, e, hb, q⟩ := h
  exact ⟨i, e, Nat.lt_trans (med_log hb.1 hb.2) (by decide), q⟩)
theorem call_intI : CallR X (.type "int") (fun xs H Q => ∃ i, xs = [.int i] ∧ Q (.int i) H) := fun pins s σ H xs us Q I r h => call_int1 pins s σ H xs us Q I r (.inl h)
/-- a tracked list's, a tracked tuple's item -/
def rIxLT : R2 := fun x y H Q => ∃ p xs i v, x = .ref p ∧ y = .int i ∧ H p = some (.lst xs) ∧ atI xs i = some v ∧ Q v H
def rIxTT : R2 := fun x y H Q => ∃ p xs i v, x = .ref p ∧ y = .int i ∧ H p = some (.tup xs) ∧ atI xs i = some v ∧ Q v H
theorem ix_listT : IxR X rIxLT := fun e1 e2 pins s σ H x y u v Q I rx ry h hs => ix_list e1 e2 pins s σ H x y u v Q I rx ry (by
  obtain ⟨p, xs, i, v, h1, h2, h3, h4, q⟩ := h
  exact ⟨p, xs, i, v, h1, h2, SqL.of h3, h4, q⟩) hs
theorem ix_tupT : IxR X rIxTT := fun e1 e2 pins s σ H x y u v Q I rx ry h hs => ix_tup e1 e2 pins s σ H x y u v Q I rx ry (by
  obtain ⟨p, xs, i, v, h1, h2, h3, h4, q⟩ := h
  exact ⟨p, xs, i, v, h1, h2, SqT.of h3, h4, q⟩) hs
/-- repr of data, no repr under way -/
def rReprD (K : PySem.W.Frag) : List V → Hp → VK → Prop := fun xs H Q =>
  ∃ v d, xs = [v] ∧ Dp K H v d ∧ fine 20 d = true ∧ sz d ≤ 16000000 ∧ Q (.str d.shown) H
/-- a < b < c < d -/
def tChain3 (r r' r'' : R2) (ta tb tc td : TE) : TE := fun σ H Q => ta σ H fun x H1 => tb σ H1 fun y H2 => r x y H2 fun z H3 => ∃ k, z = .bl k ∧
  (if k = true then tc σ H3 fun u H4 => r' y u H4 fun z' H5 => ∃ k', z' = .bl k' ∧ (if k' = true then td σ H5 fun t H6 => r'' u t H6 Q else Q (.bl false) H5) else Q (.bl false) H3)
section
variable {o1 o2 o3 : CmpOp} {q1 q2 q3 : R2} {a b c d : Expr} {ta tb tc td : TE} {pos : Pos}
theorem pe_chain3 (h1 : OpR X (compareOp o1) q1) (h2 : OpR X (compareOp o2) q2) (h3 : OpR X (compareOp o3) q3)
    (ha : PE X a ta) (hb : PE X b tb) (hc : PE X c tc) (hd : PE X d td)
    (hm : lastMarks [o1, o2, o3] [b, c, d] = false := by with_unfolding_all rfl) :
    PE X (.Compare a [o1, o2, o3] [b, c, d] pos) (tChain3 q1 q2 q3 ta tb tc td) := by
  refine ⟨fun pins s σ H Q I h => Compare_chain ?_ hm⟩
  refine thn (ha.run pins s σ H _ I h) ?_
  rintro v s1 ⟨x, H1, I1, rx, g1⟩
  refine chain_link (thn (hb.run pins s1 σ H1 _ I1 g1) ?_)
  rintro u s2 ⟨y, H2, I2, ry, g2⟩
  refine thn (h1 pins s2 σ H2 x y v u _ I2 rx ry g2) ?_
  rintro w s3 ⟨z, H3, I3, rz, k, ez, g3⟩
  subst ez
  cases rz
  refine wpAny_truthy_bool ?_
  cases k with
  | false => exact ite_ff ⟨.bl false, H3, I3, rfl, g3⟩
  | true =>
    refine ite_tt (chain_link (thn (hc.run pins s3 σ H3 _ I3 g3) ?_))
    rintro u' s4 ⟨y', H4, I4, ry', g4⟩
    refine thn (h2 pins s4 σ H4 y y' u u' _ I4 ry ry' g4) ?_
    rintro w' s5 ⟨z', H5, I5, rz', k', ez', g5⟩
    subst ez'
    cases rz'
    refine wpAny_truthy_bool ?_
    cases k' with
    | false => exact ite_ff ⟨.bl false, H5, I5, rfl, g5⟩
    | true =>
      refine ite_tt (chain_last (thn (hd.run pins s5 σ H5 _ I5 g5) ?_))
      rintro u2 s6 ⟨y2, H6, I6, ry2, g6⟩
      exact h3 pins s6 σ H6 y' y2 u' u2 Q I6 ry' ry2 g6
theorem pt_chain3 (h1 : OpR X (compareOp o1) q1) (h2 : OpR X (compareOp o2) q2) (h3 : OpR X (compareOp o3) q3)
    (ha : PE X a ta) (hb : PE X b tb) (hc : PE X c tc) (hd : PE X d td)
    (hm : lastMarks [o1, o2, o3] [b, c, d] = false := by with_unfolding_all rfl) :
    PT X (.Compare a [o1, o2, o3] [b, c, d] pos) (tTest (tChain3 q1 q2 q3 ta tb tc td)) := by
  refine ⟨fun pins s σ H Q I h => isTrue_chain ?_ hm⟩
  refine thn (ha.run pins s σ H _ I h) ?_
  rintro v s1 ⟨x, H1, I1, rx, g1⟩
  refine test_link (thn (hb.run pins s1 σ H1 _ I1 g1) ?_)
  rintro u s2 ⟨y, H2, I2, ry, g2⟩
  refine thn (h1 pins s2 σ H2 x y v u _ I2 rx ry g2) ?_
  rintro w s3 ⟨z, H3, I3, rz, k, ez, g3⟩
  subst ez
  cases rz
  refine wpAny_truthy_bool ?_
  cases k with
  | false =>
    obtain ⟨b, eb, g⟩ := g3
    cases eb
    exact ite_ff ⟨H3, I3, g⟩
  | true =>
    refine ite_tt (test_link (thn (hc.run pins s3 σ H3 _ I3 g3) ?_))
    rintro u' s4 ⟨y', H4, I4, ry', g4⟩
    refine thn (h2 pins s4 σ H4 y y' u u' _ I4 ry ry' g4) ?_
    rintro w' s5 ⟨z', H5, I5, rz', k', ez', g5⟩
    subst ez'
    cases rz'
    refine wpAny_truthy_bool ?_
    cases k' with
    | false =>
      obtain ⟨b, eb, g⟩ := g5
      cases eb
      exact ite_ff ⟨H5, I5, g⟩
    | true =>
      refine ite_tt (test_last (thn (hd.run pins s5 σ H5 _ I5 g5) ?_))
      rintro u2 s6 ⟨y2, H6, I6, ry2, g6⟩
      refine thn (h3 pins s6 σ H6 y' y2 u' u2 _ I6 ry' ry2 g6) ?_
      rintro w2 s7 ⟨z2, H7, I7, rz2, k2, ez2, g7⟩
      subst ez2
      cases rz2
      exact wpAny_truthy_bool ⟨H7, I7, g7⟩
end
theorem call_intB : CallR X (.type "int") (fun xs H Q => ∃ k, xs = [.bl k] ∧ Q (.int (if k then 1 else 0)) H) := fun pins s σ H xs us Q I r h => call_int1 pins s σ H xs us Q I r (.inr h)
def rMin3 : List V → Hp → VK → Prop := fun xs H Q => ∃ i j k, xs = [.int i, .int j, .int k] ∧ Q (.int (min (min i j) k)) H
def rMax3 : List V → Hp → VK → Prop := fun xs H Q => ∃ i j k, xs = [.int i, .int j, .int k] ∧ Q (.int (max (max i j) k)) H
theorem vals3 {x y z : V} {us : List Value} (r : Vals [x, y, z] us) : ∃ u v w, us = [u, v, w] ∧ RelV x u ∧ RelV y v ∧ RelV z w := by
  cases r with
  | cons a r => cases r with
    | cons b r => cases r with
      | cons c r => cases r; exact ⟨_, _, _, rfl, a, b, c⟩
theorem call_min3 (hc : X.calm = true) : CallR X (.builtin "min") rMin3 := by
  intro pins s σ H xs us Q I r h
  obtain ⟨i, j, k, rfl, q⟩ := h
  obtain ⟨u, v, w, rfl, ⟨t, rfl⟩, ⟨t', rfl⟩, ⟨t2, rfl⟩⟩ := vals3 r
  refine PySem.min_three_ints (I.ok.hd hc) fun h' tk kk => ⟨.int (min (min i j) k), H, I.kept kk, ?_, q⟩
  split
  · split
    · exact ⟨_, by rw [show min (min i j) k = k by omega]⟩
    · exact ⟨_, by rw [show min (min i j) k = j by omega]⟩
  · split
    · exact ⟨_, by rw [show min (min i j) k = k by omega]⟩
    · exact ⟨_, by rw [show min (min i j) k = i by omega]⟩
theorem call_max3 (hc : X.calm = true) : CallR X (.builtin "max") rMax3 := by
  intro pins s σ H xs us Q I r h
  obtain ⟨i, j, k, rfl, q⟩ := h
  obtain ⟨u, v, w, rfl, ⟨t, rfl⟩, ⟨t', rfl⟩, ⟨t2, rfl⟩⟩ := vals3 r
  refine PySem.max_three_ints (I.ok.hd hc) fun h' tk kk => ⟨.int (max (max i j) k), H, I.kept kk, ?_, q⟩
  split
  · split
    · exact ⟨_, by rw [show max (max i j) k = k by omega]⟩
    · exact ⟨_, by rw [show max (max i j) k = j by omega]⟩
  · split
    · exact ⟨_, by rw [show max (max i j) k = k by omega]⟩
    · exact ⟨_, by rw [show max (max i j) k = i by omega]⟩
def rLenQ (K : PySem.W.Frag) : List V → Hp → VK → Prop := fun xs H Q => ∃ p ys, xs = [.ref p] ∧ (SqL K H p ys ∨ SqT K H p ys) ∧ Q (.int ys.length) H
theorem call_lenQ : CallR X (.builtin "len") (rLenQ X.K) := call_len_seq
/-- == and != of data -/
def rEqF (K : PySem.W.Frag) : R2 := fun x y H Q => ∃ d e, Dp K H x d ∧ Dp K H y e ∧ fine 20 d = true ∧ fine 20 e = true ∧ Q (.bl (PyData.eqv d e)) H
def rNeF (K : PySem.W.Frag) : R2 := fun x y H Q => ∃ d e, Dp K H x d ∧ Dp K H y e ∧ fine 20 d = true ∧ fine 20 e = true ∧ Q (.bl (!PyData.eqv d e)) H
theorem op_eqF {k : Nat} (hr : Room k X.A) : OpR X (compareOp .Eq) (rEqF X.K) := fun pins s σ H x y v u Q I rx ry h => op_eqD hr.units pins s σ H x y v u Q I rx ry (by
  obtain ⟨d, e, h1, h2, h3, h4, q⟩ := h
  exact ⟨d, e, h1, h2, fine_shaped h3, fine_shaped h4, q⟩)
theorem op_neF {k : Nat} (hr : Room k X.A) : OpR X (compareOp .NotEq) (rNeF X.K) := fun pins s σ H x y v u Q I rx ry h => op_neD hr.units pins s σ H x y v u Q I rx ry (by
  obtain ⟨d, e, h1, h2, h3, h4, q⟩ := h
  exact ⟨d, e, h1, h2, fine_shaped h3, fine_shaped h4, q⟩)
theorem call_repr_D {k : Nat} (hr : Room k X.A) (hc : Clean X.A) : CallR X (.builtin "repr") (rReprD X.K) := by
  intro pins s σ H xs us Q I r h
  obtain ⟨v, d, rfl, hd, hf, hs, q⟩ := h
  obtain ⟨h1, h2, h3, hz0⟩ := fine_ok d 20 hf
  have hz : d.shown.length ≤ sizeLine := by rw [sizeLine_eq]; omega
  cases r with
  | cons r0 r1 =>
  cases r1
  rename_i u
  have hu := hr.units
  obtain ⟨as, rd⟩ := Dp.reads I d v u hd r0
  cases hd with
  | non => cases r0; exact P.repr_of_none ⟨.str _, H, I.tok _, ⟨_, rfl⟩, q⟩
  | bl b =>
    cases r0
    refine P.repr_of_bool ⟨.str _, H, I.tok _, ⟨_, rfl⟩, ?_⟩
    cases b <;> exact q
  | int i =>
    obtain ⟨t, rfl⟩ := r0
    exact P.repr_of_int (by simpa only [PyData.showable, decide_eq_true_eq] using h1) ⟨.str _, H, I.tok _, ⟨_, rfl⟩, q⟩
  | str x =>
    obtain ⟨t, rfl⟩ := r0
    exact P.repr_of_str ⟨.str _, H, I.tok _, ⟨_, rfl⟩, q⟩ hz
  | lst _ _ =>
    cases r0
    exact repr_of_reads' rd h1 (fun z => by rw [h2] at z; cases z) hc (by omega) (fun _ _ z => z) (fun h' u tk kk => ⟨.str _, H, I.kept kk, ⟨_, rfl⟩, q⟩) hz
  | tup _ _ =>
    cases r0
    exact repr_of_reads' rd h1 (fun z => by rw [h2] at z; cases z) hc (by omega) (fun _ _ z => z) (fun h' u tk kk => ⟨.str _, H, I.kept kk, ⟨_, rfl⟩, q⟩) hz
end

/-- (a, b, ..) = a tracked tuple of that length -/
def gTupT (n : Nat) (t : TGs) : TG := fun v σ H Q => ∃ a xs, v = .ref a ∧ H a = some (.tup xs) ∧ xs.length = n ∧ t xs σ H Q
theorem pg_tupT {X : Cx} {pos : Pos} {es : List Expr} {k : Nat} {t : TGs} {n : Nat} (hc : X.calm = true) (h : PGs X es t)
    (hn : (assignEach es X.env).length = n := by rfl) (hst : (assignEach es X.env).findIdx? (·.1) = none := by rfl) : PG X (.Tuple es k pos) (gTupT n t) :=
  ⟨fun pins s σ H v u Q I r hw => (pg_tup hc h hn hst).run pins s σ H v u Q I r (by
    obtain ⟨a, xs, e1, hq, hl, z⟩ := hw
    exact ⟨a, xs, e1, SqT.of hq, hl, z⟩)⟩

/-! ### promises by the number of arguments -/
def sp0 (F : Hp → VK → XK → Prop) : Sp := fun vs H Q E => vs = [] ∧ F H Q E
def sp1 (F : V → Hp → VK → XK → Prop) : Sp := fun vs H Q E => ∃ a, vs = [a] ∧ F a H Q E
def sp2 (F : V → V → Hp → VK → XK → Prop) : Sp := fun vs H Q E => ∃ a b, vs = [a, b] ∧ F a b H Q E
def sp3 (F : V → V → V → Hp → VK → XK → Prop) : Sp := fun vs H Q E => ∃ a b c, vs = [a, b, c] ∧ F a b c H Q E
def sp4 (F : V → V → V → V → Hp → VK → XK → Prop) : Sp := fun vs H Q E => ∃ a b c d, vs = [a, b, c, d] ∧ F a b c d H Q E
def sp5 (F : V → V → V → V → V → Hp → VK → XK → Prop) : Sp := fun vs H Q E => ∃ a b c d e, vs = [a, b, c, d, e] ∧ F a b c d e H Q E
theorem ar0 {F vs H Q E} (h : sp0 F vs H Q E) : vs.length = 0 := by obtain ⟨rfl, _⟩ := h; rfl
theorem ar1 {F vs H Q E} (h : sp1 F vs H Q E) : vs.length = 1 := by obtain ⟨_, rfl, _⟩ := h; rfl
theorem ar2 {F vs H Q E} (h : sp2 F vs H Q E) : vs.length = 2 := by obtain ⟨_, _, rfl, _⟩ := h; rfl
theorem ar3 {F vs H Q E} (h : sp3 F vs H Q E) : vs.length = 3 := by obtain ⟨_, _, _, rfl, _⟩ := h; rfl
theorem ar4 {F vs H Q E} (h : sp4 F vs H Q E) : vs.length = 4 := by obtain ⟨_, _, _, _, rfl, _⟩ := h; rfl
theorem ar5 {F vs H Q E} (h : sp5 F vs H Q E) : vs.length = 5 := by obtain ⟨_, _, _, _, _, rfl, _⟩ := h; rfl

/-! ### what is kept but for one object -/
def Mo (r : Addr) (H H' : Hp) : Prop := ∀ b o, b ≠ r → H b = some o → H' b = some o
theorem Mo.refl (r : Addr) (H : Hp) : Mo r H H := fun _ _ _ h => h
theorem Mo.trans {r : Addr} {H H1 H2 : Hp} (a : Mo r H H1) (b : Mo r H1 H2) : Mo r H H2 := fun c o n h => b c o n (a c o n h)
theorem Mo.ex {r : Addr} {H H1 : Hp} (e : Ex H H1) : Mo r H H1 := fun c o _ h => e c o h
theorem Mo.upd {r : Addr} {H : Hp} {o : HO} : Mo r H (upd H r o) := fun c u n h => by rw [upd_ne n]; exact h
theorem Ex.to_mo {r : Addr} {H H1 H2 : Hp} (e : Ex H H1) (m : Mo r H1 H2) : Mo r H H2 := fun c o n h => m c o n (e c o h)
/-- a new object that is written stays new to what stood before -/
theorem Mo.ex_new {r : Addr} {H H1 H2 : Hp} (e : Ex H H1) (n : H r = none) (m : Mo r H1 H2) : Ex H H2 := fun c o h => m c o (ne_of_none h n) (e c o h)
theorem sq_l {K : PySem.W.Frag} {H : Hp} {a : Addr} {xs : List V} (h : H a = some (.lst xs)) : SqL K H a xs := .inl (.inl h)
theorem sq_t {K : PySem.W.Frag} {H : Hp} {a : Addr} {xs : List V} (h : H a = some (.tup xs)) : SqT K H a xs := .inl (.inl h)

/-! ### new data: what is at addresses of S alone -/
mutual
inductive Rp (H : Hp) (S : Addr → Prop) : V → PyData → Prop where
  | non : Rp H S .non .none
  | bl (b : Bool) : Rp H S (.bl b) (.bool b)
  | int (i : Int) : Rp H S (.int i) (.int i)
  | str (x : Str) : Rp H S (.str x) (.str x)
  | lst {a : Addr} {xs : List V} {ds : List PyData} : S a → H a = some (.lst xs) → RpA H S xs ds → Rp H S (.ref a) (.list ds)
  | tup {a : Addr} {xs : List V} {ds : List PyData} : S a → H a = some (.tup xs) → RpA H S xs ds → Rp H S (.ref a) (.tuple ds)
inductive RpA (H : Hp) (S : Addr → Prop) : List V → List PyData → Prop where
  | nil : RpA H S [] []
  | cons {v : V} {vs : List V} {d : PyData} {ds : List PyData} : Rp H S v d → RpA H S vs ds → RpA H S (v :: vs) (d :: ds)
end
section
variable {H H' : Hp} {S S' : Addr → Prop} {K : PySem.W.Frag}
mutual
theorem Rp.keep (k : ∀ b o, S b → H b = some o → H' b = some o) (s : ∀ b, S b → S' b) : ∀ {d : PyData} {v : V}, Rp H S v d → Rp H' S' v d
  | .none, _, .non => .non
  | .bool _, _, .bl b => .bl b
  | .int _, _, .int i => .int i
  | .str _, _, .str x => .str x
  | .list _, _, .lst m h r => .lst (s _ m) (k _ _ m h) (RpA.keep k s r)
  | .tuple _, _, .tup m h r => .tup (s _ m) (k _ _ m h) (RpA.keep k s r)
theorem RpA.keep (k : ∀ b o, S b → H b = some o → H' b = some o) (s : ∀ b, S b → S' b) : ∀ {ds : List PyData} {vs : List V}, RpA H S vs ds → RpA H' S' vs ds
  | [], _, .nil => .nil
  | _ :: _, _, .cons h r => .cons (Rp.keep k s h) (RpA.keep k s r)
end
mutual
theorem Rp.dp : ∀ {d : PyData} {v : V}, Rp H S v d → Dp K H v d
  | .none, _, .non => .non
  | .bool _, _, .bl b => .bl b
  | .int _, _, .int i => .int i
  | .str _, _, .str x => .str x
  | .list _, _, .lst _ h r => .lst (sq_l h) (RpA.dp r)
  | .tuple _, _, .tup _ h r => .tup (sq_t h) (RpA.dp r)
theorem RpA.dp : ∀ {ds : List PyData} {vs : List V}, RpA H S vs ds → DpAll K H vs ds
  | [], _, .nil => .nil
  | _ :: _, _, .cons h r => .cons (Rp.dp h) (RpA.dp r)
end
mutual
theorem Rp.here : ∀ {d : PyData} {v : V}, Rp H S v d → Rp H (fun b => S b ∧ ∃ o, H b = some o) v d
  | .none, _, .non => .non
  | .bool _, _, .bl b => .bl b
  | .int _, _, .int i => .int i
  | .str _, _, .str x => .str x
  | .list _, _, .lst m h r => .lst ⟨m, _, h⟩ h (RpA.here r)
  | .tuple _, _, .tup m h r => .tup ⟨m, _, h⟩ h (RpA.here r)
theorem RpA.here : ∀ {ds : List PyData} {vs : List V}, RpA H S vs ds → RpA H (fun b => S b ∧ ∃ o, H b = some o) vs ds
  | [], _, .nil => .nil
  | _ :: _, _, .cons h r => .cons (Rp.here h) (RpA.here r)
end
theorem Rp.off {p : Addr} (hp : H p = none) {v : V} {d : PyData} (h : Rp H S v d) : Rp H (fun b => S b ∧ b ≠ p) v d :=
  h.here.keep (fun _ _ _ q => q) fun b ⟨q, o, e⟩ => ⟨q, ne_of_none e hp⟩
theorem RpA.off {p : Addr} (hp : H p = none) {v : List V} {d : List PyData} (h : RpA H S v d) : RpA H (fun b => S b ∧ b ≠ p) v d :=
  h.here.keep (fun _ _ _ q => q) fun b ⟨q, o, e⟩ => ⟨q, ne_of_none e hp⟩
theorem Rp.ex (e : Ex H H') {v : V} {d : PyData} (h : Rp H S v d) : Rp H' S v d := h.keep (fun b o _ q => e b o q) fun _ q => q
theorem RpA.ex (e : Ex H H') {v : List V} {d : List PyData} (h : RpA H S v d) : RpA H' S v d := h.keep (fun b o _ q => e b o q) fun _ q => q
theorem Rp.sub {v : V} {d : PyData} (h : Rp H S v d) (s : ∀ b, S b → S' b) : Rp H S' v d := h.keep (fun _ _ _ q => q) s
theorem RpA.sub {v : List V} {d : List PyData} (h : RpA H S v d) (s : ∀ b, S b → S' b) : RpA H S' v d := h.keep (fun _ _ _ q => q) s
theorem RpA.app : ∀ {xs ys : List V} {ds es : List PyData}, RpA H S xs ds → RpA H S ys es → RpA H S (xs ++ ys) (ds ++ es)
  | _, _, _, _, .nil, r => r
  | _, _, _, _, .cons h t, r => .cons h (RpA.app t r)
theorem RpA.len : ∀ {vs : List V} {ds : List PyData}, RpA H S vs ds → vs.length = ds.length
  | _, _, .nil => rfl
  | _, _, .cons _ r => congrArg Nat.succ (RpA.len r)
theorem RpA.at : ∀ {vs : List V} {ds : List PyData} {i : Nat} {d : PyData}, RpA H S vs ds → ds[i]? = some d → ∃ v, vs[i]? = some v ∧ Rp H S v d
  | _, _, _, _, .nil, e => by simp at e
  | _, _, 0, _, .cons h _, e => by simp at e; subst e; exact ⟨_, rfl, h⟩
  | _, _, i + 1, _, .cons _ r, e => by simpa using RpA.at (i := i) r (by simpa using e)
theorem RpA.at' : ∀ {vs : List V} {ds : List PyData} {i : Nat} {v : V}, RpA H S vs ds → vs[i]? = some v → ∃ d, ds[i]? = some d ∧ Rp H S v d
  | _, _, _, _, .nil, e => by simp at e
  | _, _, 0, _, .cons h _, e => by simp at e; subst e; exact ⟨_, rfl, h⟩
  | _, _, i + 1, _, .cons _ r, e => by simpa using RpA.at' (i := i) r (by simpa using e)
theorem RpA.ints : ∀ {ns : List Int}, RpA H S (ns.map V.int) (ns.map PyData.int)
  | [] => .nil
  | n :: _ => .cons (.int n) RpA.ints
theorem RpA.ints_inv : ∀ {ns : List Int} {vs : List V}, RpA H S vs (ns.map PyData.int) → vs = ns.map V.int
  | [], _, .nil => rfl
  | _ :: _, _, .cons (.int _) r => congrArg _ (RpA.ints_inv r)
/-- a new datum: all of it new to H -/
abbrev New (H : Hp) : Addr → Prop := fun b => H b = none
theorem new_ex (e : Ex H H') : ∀ b, New H' b → New H b := fun _ n => Evl.fresh_back e n
end

/-! ### comprehensions -/
theorem dpa_ex {K : PySem.W.Frag} {H H' : Hp} (e : Ex H H') : ∀ {vs : List V} {ds : List PyData}, DpAll K H vs ds → DpAll K H' vs ds
  | _, _, .nil => .nil
  | _, _, .cons h r => .cons (dp_ex e _ _ h) (dpa_ex e r)
theorem dpa_len {K : PySem.W.Frag} {H : Hp} : ∀ {vs : List V} {ds : List PyData}, DpAll K H vs ds → vs.length = ds.length
  | _, _, .nil => rfl
  | _, _, .cons _ r => congrArg Nat.succ (dpa_len r)
theorem dpa_at {K : PySem.W.Frag} {H : Hp} : ∀ {vs : List V} {ds : List PyData} {i : Nat} {d : PyData}, DpAll K H vs ds → ds[i]? = some d → ∃ v, vs[i]? = some v ∧ Dp K H v d
  | _, _, _, _, .nil, e => by simp at e
  | _, _, 0, _, .cons h _, e => by simp at e; subst e; exact ⟨_, rfl, h⟩
  | _, _, i + 1, _, .cons _ r, e => by simpa using dpa_at (i := i) r (by simpa using e)
theorem dpa_ints {K : PySem.W.Frag} {H : Hp} : ∀ {ns : List Int}, DpAll K H (ns.map V.int) (ns.map PyData.int)
  | [] => .nil
  | n :: _ => .cons (.int n) dpa_ints
section
variable {K : PySem.W.Frag} {σ : L2.St} {H : Hp} {ta : TA} {te tl : TE} {tt : TT} {j : Nat} {vs : List Nat} {Q : VK} {n : Nat} {a : Addr} {xs : List V}
/-- one turn of a comprehension without a test: what is at D grows by what represents d i -/
def LcAt (H : Hp) (D : Addr) (d : Nat → PyData) (i : Nat) (H' : Hp) : Prop :=
  H D = none ∧ Ex H H' ∧ ∃ ys, H' D = some (.lst ys) ∧ RpA H' (fun b => New H b ∧ b ≠ D) ys ((List.range i).map d)
theorem LcAt.start {d : Nat → PyData} {D : Addr} (h : H D = none) : LcAt H D d 0 (upd H D (.lst [])) := ⟨h, exn h, [], upd_same, .nil⟩
theorem lc_step {d : Nat → PyData} {D : Addr} {i : Nat} {H' : Hp} {σ2 : L2.St} (p : LcAt H D d i H') (hi : i < 1000000)
    (he : ∀ H1, Ex H H1 → ∀ R : VK, (∀ v H2, Ex H1 H2 → Rp H2 (New H1) v (d i) → R v H2) → te σ2 H1 R) :
    tYes σ2 H' fun b H3 => if b = true then te σ2 H3 fun y H4 => ∃ acc, H4 D = some (.lst acc) ∧ acc.length < sizeLine ∧ LcAt H D d (i + 1) (upd H4 D (.lst (acc ++ [y]))) else LcAt H D d (i + 1) H3 := by
  obtain ⟨p1, p2, ys, p3, p4⟩ := p
  unfold tYes
  show (if true = true then _ else _)
  rw [if_pos rfl]
  refine he H' p2 _ fun v H2 e2 hv => ?_
  have len : ys.length = i := by rw [p4.len, List.length_map, List.length_range]
  have keep : ∀ (b : Addr) (o : HO), New H b ∧ b ≠ D → H2 b = some o → (upd H2 D (.lst (ys ++ [v]))) b = some o := fun b o m q => by rw [upd_ne m.2]; exact q
  refine ⟨ys, e2 D _ p3, ?_, p1, Mo.ex_new (p2.trans e2) p1 Mo.upd, ys ++ [v], upd_same, ?_⟩
  · rw [len, sizeLine_eq]; omega
  · rw [List.range_succ, List.map_append]
    refine RpA.app ((p4.ex e2).keep keep fun _ q => q) (.cons ?_ .nil)
    exact (hv.sub fun b q => ⟨Evl.fresh_back p2 q, ne_of_none' q p3⟩).keep keep fun _ q => q
where ne_of_none' {H : Hp} {a b : Addr} {o : HO} (q : H b = none) (h : H a = some o) : b ≠ a := fun e => by rw [e, h] at q; cases q
/-- [.. for x in range(n)] -/
theorem lc_rng (d : Nat → PyData) (ha : ∀ R, R [.int (n : Int)] H → ta σ H R) (hn : n ≤ 1000000) (hw : ∀ x, wipe ((wipe σ vs).set j (some x)) vs = wipe σ vs)
    (he : ∀ (i : Nat) H1, i < n → Ex H H1 → ∀ R : VK, (∀ v H2, Ex H1 H2 → Rp H2 (New H1) v (d i) → R v H2) → te ((wipe σ vs).set j (some (.int (i : Int)))) H1 R)
    (k : ∀ v H', Ex H H' → Rp H' (New H) v (.list ((List.range n).map d)) → Q v H') : tLc (iRng1 ta) (gName j) tYes te vs σ H Q := by
  refine ha _ ⟨(n : Int), rfl, by omega, by omega, fun D hD => ?_⟩
  refine lc_range (lo := 0) (n := n) (LcAt H D d) (.start hD) (fun i H' hi p => ?_) (fun H' p => ?_)
  · have e0 : (0 : Int) + (i : Int) = (i : Int) := Int.zero_add _
    show wipe ((wipe σ vs).set j (some (.int ((0 : Int) + (i : Int))))) vs = wipe σ vs ∧ _
    refine ⟨hw _, ?_⟩
    rw [e0]
    exact lc_step p (by omega) (he i · hi)
  · obtain ⟨p1, p2, ys, p3, p4⟩ := p
    exact k _ _ p2 (.lst p1 p3 (p4.sub fun b q => q.1))
theorem lc_rng2 {lo : Int} (d : Nat → PyData) (ha : ∀ R, R [.int lo, .int (lo + (n : Int))] H → ta σ H R) (hn : n ≤ 1000000) (hlo : -1000000 ≤ lo ∧ lo ≤ 1000000) (hw : ∀ x, wipe ((wipe σ vs).set j (some x)) vs = wipe σ vs)
    (he : ∀ (i : Nat) H1, i < n → Ex H H1 → ∀ R : VK, (∀ v H2, Ex H1 H2 → Rp H2 (New H1) v (d i) → R v H2) → te ((wipe σ vs).set j (some (.int (lo + (i : Int))))) H1 R)
    (k : ∀ v H', Ex H H' → Rp H' (New H) v (.list ((List.range n).map d)) → Q v H') : tLc (iRng2 ta) (gName j) tYes te vs σ H Q := by
  refine ha _ ⟨lo, lo + (n : Int), rfl, ⟨by omega, by omega, by omega, by omega⟩, fun D hD => ?_⟩
  have en : (lo + (n : Int) - lo).toNat = n := by omega
  rw [en]
  refine lc_range (lo := lo) (n := n) (LcAt H D d) (.start hD) (fun i H' hi p => ⟨hw _, lc_step p (by omega) (he i · hi)⟩) (fun H' p => ?_)
  obtain ⟨p1, p2, ys, p3, p4⟩ := p
  exact k _ _ p2 (.lst p1 p3 (p4.sub fun b q => q.1))
/-- [.. for x in xs], xs a list that stands -/
theorem lc_lst (d : Nat → PyData) (ha : ∀ R, R (.ref a) H → tl σ H R) (hx : SqL K H a xs) (hn : xs.length ≤ 1000000) (hw : ∀ x, wipe ((wipe σ vs).set j (some x)) vs = wipe σ vs)
    (he : ∀ (i : Nat) x H1, xs[i]? = some x → Ex H H1 → ∀ R : VK, (∀ v H2, Ex H1 H2 → Rp H2 (New H1) v (d i) → R v H2) → te ((wipe σ vs).set j (some x)) H1 R)
    (k : ∀ v H', Ex H H' → Rp H' (New H) v (.list ((List.range xs.length).map d)) → Q v H') : tLc (iList K tl) (gName j) tYes te vs σ H Q := by
  refine ha _ ⟨a, rfl, ⟨xs, hx⟩, fun D hD => ?_⟩
  refine lc_list (xs := xs) (LcAt H D d) (.start hD) (fun i H' _ p => Evl.ex_l p.2.1 hx) (fun i x H' hi p => ⟨hw _, lc_step p ?_ (he i x · hi)⟩) (fun H' p => ?_)
  · have := (List.getElem?_eq_some_iff.mp hi).1; omega
  · obtain ⟨p1, p2, ys, p3, p4⟩ := p
    exact k _ _ p2 (.lst p1 p3 (p4.sub fun b q => q.1))
end

section
variable {K : PySem.W.Frag} {σ : L2.St} {H : Hp} {ta : TA} {te tl : TE} {tt : TT} {j : Nat} {vs : List Nat} {Q : VK} {n : Nat} {a : Addr} {xs : List V}
/-- with a test -/
def LcAtF (H : Hp) (D : Addr) (f : Nat → Bool) (d : Nat → PyData) (i : Nat) (H' : Hp) : Prop :=
  H D = none ∧ Ex H H' ∧ ∃ ys, H' D = some (.lst ys) ∧ RpA H' (fun b => New H b ∧ b ≠ D) ys (((List.range i).filter f).map d)
theorem LcAtF.start {f : Nat → Bool} {d : Nat → PyData} {D : Addr} (h : H D = none) : LcAtF H D f d 0 (upd H D (.lst [])) := ⟨h, exn h, [], upd_same, .nil⟩
theorem lc_stepF {f : Nat → Bool} {d : Nat → PyData} {D : Addr} {i : Nat} {H' : Hp} {σ2 : L2.St} (p : LcAtF H D f d i H') (hi : i < 1000000)
    (ht : ∀ H1, Ex H H1 → ∀ R : Bool → Hp → Prop, (∀ H2, Ex H1 H2 → R (f i) H2) → tt σ2 H1 R)
    (he : f i = true → ∀ H1, Ex H H1 → ∀ R : VK, (∀ v H2, Ex H1 H2 → Rp H2 (New H1) v (d i) → R v H2) → te σ2 H1 R) :
    tt σ2 H' fun b H3 => if b = true then te σ2 H3 fun y H4 => ∃ acc, H4 D = some (.lst acc) ∧ acc.length < sizeLine ∧ LcAtF H D f d (i + 1) (upd H4 D (.lst (acc ++ [y]))) else LcAtF H D f d (i + 1) H3 := by
  obtain ⟨p1, p2, ys, p3, p4⟩ := p
  refine ht H' p2 _ fun H3 e3 => ?_
  cases hf : f i with
  | false =>
    refine iteF ⟨p1, p2.trans e3, ys, e3 D _ p3, ?_⟩
    rw [List.range_succ, List.filter_append, List.filter_cons_of_neg (by simp [hf]), List.filter_nil, List.append_nil]
    exact p4.ex e3
  | true =>
    show (if true = true then _ else _)
    rw [if_pos rfl]
    refine he hf H3 (p2.trans e3) _ fun v H2 e2 hv => ?_
    have len : ys.length ≤ i := by
      rw [p4.len, List.length_map]
      have := List.length_filter_le f (List.range i)
      rw [List.length_range] at this
      exact this
    have p5 := e3 D _ p3
    have keep : ∀ (b : Addr) (o : HO), New H b ∧ b ≠ D → H2 b = some o → (upd H2 D (.lst (ys ++ [v]))) b = some o := fun b o m q => by rw [upd_ne m.2]; exact q
    refine ⟨ys, e2 D _ p5, ?_, p1, Mo.ex_new ((p2.trans e3).trans e2) p1 Mo.upd, ys ++ [v], upd_same, ?_⟩
    · rw [sizeLine_eq]; omega
    · rw [List.range_succ, List.filter_append, List.filter_cons_of_pos hf, List.filter_nil, List.map_append]
      refine RpA.app (((p4.ex e3).ex e2).keep keep fun _ q => q) (.cons ?_ .nil)
      exact (hv.sub fun b q => ⟨Evl.fresh_back (p2.trans e3) q, lc_step.ne_of_none' q p5⟩).keep keep fun _ q => q
theorem lc_rng2F {lo : Int} (f : Nat → Bool) (d : Nat → PyData) (ha : ∀ R, R [.int lo, .int (lo + (n : Int))] H → ta σ H R) (hn : n ≤ 1000000) (hlo : -1000000 ≤ lo ∧ lo ≤ 1000000) (hw : ∀ x, wipe ((wipe σ vs).set j (some x)) vs = wipe σ vs)
    (ht : ∀ (i : Nat) H1, i < n → Ex H H1 → ∀ R : Bool → Hp → Prop, (∀ H2, Ex H1 H2 → R (f i) H2) → tt ((wipe σ vs).set j (some (.int (lo + (i : Int))))) H1 R)
    (he : ∀ (i : Nat) H1, i < n → f i = true → Ex H H1 → ∀ R : VK, (∀ v H2, Ex H1 H2 → Rp H2 (New H1) v (d i) → R v H2) → te ((wipe σ vs).set j (some (.int (lo + (i : Int))))) H1 R)
    (k : ∀ v H', Ex H H' → Rp H' (New H) v (.list (((List.range n).filter f).map d)) → Q v H') : tLc (iRng2 ta) (gName j) tt te vs σ H Q := by
  refine ha _ ⟨lo, lo + (n : Int), rfl, ⟨by omega, by omega, by omega, by omega⟩, fun D hD => ?_⟩
  have en : (lo + (n : Int) - lo).toNat = n := by omega
  rw [en]
  refine lc_range (lo := lo) (n := n) (LcAtF H D f d) (.start hD) (fun i H' hi p => ⟨hw _, lc_stepF p (by omega) (fun H1 => ht i H1 hi) (fun hf H1 => he i H1 hi hf)⟩) (fun H' p => ?_)
  obtain ⟨p1, p2, ys, p3, p4⟩ := p
  exact k _ _ p2 (.lst p1 p3 (p4.sub fun b q => q.1))
theorem lc_lstF (f : Nat → Bool) (d : Nat → PyData) (ha : ∀ R, R (.ref a) H → tl σ H R) (hx : SqL K H a xs) (hn : xs.length ≤ 1000000) (hw : ∀ x, wipe ((wipe σ vs).set j (some x)) vs = wipe σ vs)
    (ht : ∀ (i : Nat) x H1, xs[i]? = some x → Ex H H1 → ∀ R : Bool → Hp → Prop, (∀ H2, Ex H1 H2 → R (f i) H2) → tt ((wipe σ vs).set j (some x)) H1 R)
    (he : ∀ (i : Nat) x H1, xs[i]? = some x → f i = true → Ex H H1 → ∀ R : VK, (∀ v H2, Ex H1 H2 → Rp H2 (New H1) v (d i) → R v H2) → te ((wipe σ vs).set j (some x)) H1 R)
    (k : ∀ v H', Ex H H' → Rp H' (New H) v (.list (((List.range xs.length).filter f).map d)) → Q v H') : tLc (iList K tl) (gName j) tt te vs σ H Q := by
  refine ha _ ⟨a, rfl, ⟨xs, hx⟩, fun D hD => ?_⟩
  refine lc_list (xs := xs) (LcAtF H D f d) (.start hD) (fun i H' _ p => Evl.ex_l p.2.1 hx) (fun i x H' hi p => ⟨hw _, lc_stepF p ?_ (fun H1 => ht i x H1 hi) (fun hf H1 => he i x H1 hi hf)⟩) (fun H' p => ?_)
  · have := (List.getElem?_eq_some_iff.mp hi).1; omega
  · obtain ⟨p1, p2, ys, p3, p4⟩ := p
    exact k _ _ p2 (.lst p1 p3 (p4.sub fun b q => q.1))
end

theorem cut_to (xs : List V) (m : Nat) : cutV xs none (some (m : Int)) = xs.take m := by
  unfold cutV
  have e : HT.sIx xs.length xs.length (some (m : Int)) = min m xs.length := HT.sIx_nat xs.length xs.length m
  rw [e, HT.sIx_none]
  show List.take (min m xs.length - 0) xs = _
  rw [Nat.sub_zero, ← List.take_take, List.take_length]
theorem cut_1 (xs : List V) : cutV xs (some 1) none = xs.drop 1 := by
  unfold cutV
  have e : HT.sIx xs.length 0 (some 1) = min 1 xs.length := HT.sIx_nat xs.length 0 1
  rw [e, HT.sIx_none]
  cases xs with
  | nil => rfl
  | cons x r =>
    have e2 : min 1 (x :: r).length = 1 := by rw [List.length_cons]; omega
    rw [e2]
    show List.take ((x :: r).length - 1) r = r
    rw [List.length_cons, Nat.add_sub_cancel, List.take_length]
/-! ### comprehensions over a range, with what stands between the turns -/
section
variable {K : PySem.W.Frag} {σ : L2.St} {H : Hp} {ta : TA} {te tl : TE} {tt : TT} {j : Nat} {vs : List Nat} {Q : VK} {n : Nat} {a : Addr} {xs : List V}
/-- ints, each with a word P; I i is kept by what does not touch old objects -/
theorem lc_rngI (I : Nat → Hp → Prop) (P : Nat → Int → Prop) (ha : ∀ R, R [.int (n : Int)] H → ta σ H R) (hn : n ≤ 1000000) (hw : ∀ x, wipe ((wipe σ vs).set j (some x)) vs = wipe σ vs)
    (h0 : I 0 H) (hI : ∀ i p H1 H2, I i H1 → H p = none → Mo p H1 H2 → I i H2)
    (he : ∀ (i : Nat) p H1, i < n → I i H1 → H p = none → (∃ o, H1 p = some o) → ∀ R : VK, (∀ x H2, I (i + 1) H2 → P i x → H2 p = H1 p → R (.int x) H2) → te ((wipe σ vs).set j (some (.int (i : Int)))) H1 R)
    (k : ∀ (ns : List Int) p H', ns.length = n → (∀ i x, ns[i]? = some x → P i x) → I n H' → H p = none → H' p = some (.lst (ns.map V.int)) → Q (.ref p) H') : tLc (iRng1 ta) (gName j) tYes te vs σ H Q := by
  refine ha _ ⟨(n : Int), rfl, by omega, by omega, fun D hD => ?_⟩
  refine lc_range (lo := 0) (n := n) (fun i H' => I i H' ∧ ∃ ns : List Int, ns.length = i ∧ (∀ i x, ns[i]? = some x → P i x) ∧ H' D = some (.lst (ns.map V.int)))
    ⟨hI 0 D H _ h0 hD Mo.upd, [], rfl, by simp, upd_same⟩ (fun i H' hi p => ?_) (fun H' p => ?_)
  · obtain ⟨i0, ns, len, hp, hd⟩ := p
    have e0 : (0 : Int) + (i : Int) = (i : Int) := Int.zero_add _
    show wipe ((wipe σ vs).set j (some (.int ((0 : Int) + (i : Int))))) vs = wipe σ vs ∧ _
    refine ⟨hw _, ?_⟩
    rw [e0]
    unfold tYes
    show (if true = true then _ else _)
    rw [if_pos rfl]
    refine he i D H' hi i0 hD ⟨_, hd⟩ _ fun x H2 i2 px ed => ?_
    refine ⟨ns.map V.int, by rw [ed, hd], ?_, hI _ D H2 _ i2 hD Mo.upd, ns ++ [x], by simp [len], ?_, ?_⟩
    · rw [List.length_map, len, sizeLine_eq]; omega
    · intro m y hm
      rw [List.getElem?_append] at hm
      split at hm
      · exact hp m y hm
      · rename_i hl
        have e : m = i := by
          rcases Nat.lt_or_ge (m - ns.length) 1 with h | h
          · omega
          · rw [List.getElem?_eq_none (by simpa using h)] at hm; cases hm
        subst e
        rw [len, Nat.sub_self] at hm
        simp at hm
        subst hm
        exact px
    · rw [upd_same, List.map_append]; rfl
  · obtain ⟨i0, ns, len, hp, hd⟩ := p
    exact k ns D H' len hp i0 hD hd
end
/-! ### two displays of the same -/
theorem neF_same {K : PySem.W.Frag} {H : Hp} {p q : Addr} {xs : List V} {ds : List PyData} {A B : Prop} (h1 : H p = some (.lst xs)) (h2 : H q = some (.lst xs)) (hd : DpAll K H xs ds) (hf : fine 20 (.list ds) = true) (b : B) :
    ∃ d, Dp K H (.ref p) d ∧ ∃ e, Dp K H (.ref q) e ∧ fine 20 d = true ∧ fine 20 e = true ∧ if d.eqv e = false then A else B :=
  ⟨_, .lst (sq_l h1) hd, _, .lst (sq_l h2) hd, hf, hf, by rw [eqv_same hf, if_neg (by decide)]; exact b⟩
theorem eqF_same {K : PySem.W.Frag} {H : Hp} {p q : Addr} {xs : List V} {ds : List PyData} {Q : VK} (h1 : H p = some (.lst xs)) (h2 : H q = some (.lst xs)) (hd : DpAll K H xs ds) (hf : fine 20 (.list ds) = true) (b : Q (.bl true) H) :
    ∃ d, Dp K H (.ref p) d ∧ ∃ e, Dp K H (.ref q) e ∧ fine 20 d = true ∧ fine 20 e = true ∧ Q (.bl (d.eqv e)) H :=
  ⟨_, .lst (sq_l h1) hd, _, .lst (sq_l h2) hd, hf, hf, by rw [eqv_same hf]; exact b⟩

theorem tyV_list {K : PySem.W.Frag} {p : Addr} {H : Hp} : tyV K "list" (.ref p) H = ∃ xs, SqL K H p xs := by
  unfold tyV
  simp
theorem Rp.ints {H : Hp} {S : Addr → Prop} {v : V} {ns : List Int} (h : Rp H S v (.list (ns.map PyData.int))) : ∃ a, v = .ref a ∧ S a ∧ H a = some (.lst (ns.map V.int)) := by
  cases h with
  | lst m e r => exact ⟨_, rfl, m, by rw [e, r.ints_inv]⟩

/-! ### loops -/
section
variable {K : PySem.W.Frag} {σ : L2.St} {H : Hp} {ta : TA} {tl : TE} {tb : TS} {g : TG} {j : Nat} {D : Ends} {a : Addr} {xs : List V}
theorem for_rng2 {lo hi : Int} (n : Nat) (ha : ∀ R, R [.int lo, .int hi] H → ta σ H R) (hn : (hi - lo).toNat = n) (hb : -(2 ^ 60) ≤ lo ∧ lo ≤ 2 ^ 60 ∧ -(2 ^ 60) ≤ hi ∧ hi ≤ 2 ^ 60)
    (Pv : Nat → L2.St → Hp → Prop) (h0 : Pv 0 σ H) (hd : ∀ σ H, Pv n σ H → D.nx σ H)
    (hs : ∀ (i : Nat) σ H, i < n → Pv i σ H → tb { D with nx := Pv (i + 1), ct := Pv (i + 1), bk := D.nx } (σ.set j (some (.int (lo + (i : Int))))) H) : tFor (iRng2 ta) (gName j) tb D σ H := by
  refine ha _ ⟨lo, hi, rfl, ⟨by omega, by omega, by omega, by omega⟩, ?_⟩
  rw [hn]
  exact for_range Pv h0 hs hd
theorem for_rng1 {hi : Int} (n : Nat) (ha : ∀ R, R [.int hi] H → ta σ H R) (hn : hi.toNat = n) (hb : -(2 ^ 60) ≤ hi ∧ hi ≤ 2 ^ 60)
    (Pv : Nat → L2.St → Hp → Prop) (h0 : Pv 0 σ H) (hd : ∀ σ H, Pv n σ H → D.nx σ H)
    (hs : ∀ (i : Nat) σ H, i < n → Pv i σ H → tb { D with nx := Pv (i + 1), ct := Pv (i + 1), bk := D.nx } (σ.set j (some (.int (i : Int)))) H) : tFor (iRng1 ta) (gName j) tb D σ H := by
  refine ha _ ⟨hi, rfl, by omega, by omega, ?_⟩
  rw [hn]
  refine for_range (lo := 0) Pv h0 (fun i σ H hi p => ?_) hd
  have e0 : (0 : Int) + (i : Int) = (i : Int) := Int.zero_add _
  show tb _ (σ.set j (some (.int ((0 : Int) + (i : Int))))) H
  rw [e0]
  exact hs i σ H hi p
theorem for_lst (ha : ∀ R, R (.ref a) H → tl σ H R) (hx : SqL K H a xs) (Pv : Nat → L2.St → Hp → Prop) (h0 : Pv 0 σ H) (hl : ∀ i σ' H', i ≤ xs.length → Pv i σ' H' → SqL K H' a xs) (hd : ∀ σ H, Pv xs.length σ H → D.nx σ H)
    (hs : ∀ (i : Nat) x σ H, xs[i]? = some x → Pv i σ H → g x σ H fun σ2 H2 => tb { D with nx := Pv (i + 1), ct := Pv (i + 1), bk := D.nx } σ2 H2) : tFor (iList K tl) g tb D σ H :=
  ha _ ⟨a, rfl, ⟨xs, hx⟩, for_list Pv h0 hl hs hd⟩
theorem for_tupl (ha : ∀ R, R (.ref a) H → tl σ H R) (hx : SqT K H a xs) (Pv : Nat → L2.St → Hp → Prop) (h0 : Pv 0 σ H) (hl : ∀ i σ' H', i ≤ xs.length → Pv i σ' H' → SqT K H' a xs) (hd : ∀ σ H, Pv xs.length σ H → D.nx σ H)
    (hs : ∀ (i : Nat) x σ H, xs[i]? = some x → Pv i σ H → g x σ H fun σ2 H2 => tb { D with nx := Pv (i + 1), ct := Pv (i + 1), bk := D.nx } σ2 H2) : tFor (iTup K tl) g tb D σ H :=
  ha _ ⟨a, rfl, ⟨xs, hx⟩, for_tup Pv h0 hl hs hd⟩
end

/-! loops whose walked thing is reckoned first: simp only [tFor_tup], walk, then forT_in -/
section
variable {K : PySem.W.Frag} {σ : L2.St} {H : Hp} {ta : TA} {tl : TE} {tb : TS} {g : TG} {j : Nat} {D : Ends} {a : Addr} {xs : List V}
def ForI (J : Addr → It) (S : Hp → Addr → Prop) (g : TG) (tb : TS) (D : Ends) (σ : L2.St) (x : V) (H1 : Hp) : Prop := ∃ a, x = .ref a ∧ S H1 a ∧ ∃ W : Nat → Nat → L2.St → Hp → Prop, (∃ m, W 0 m σ H1) ∧ ∀ i m σ H, W i m σ H →
  ((J a).stop i H ∧ D.nx σ H) ∨ ((J a).go i H ∧ ∃ N : L2.St → Hp → Prop, (∀ σ' H', N σ' H' → ∃ m', m' < m ∧ W (i + 1) m' σ' H') ∧ ∀ x H', (J a).yld i H x H' → g x σ H' fun σ2 H2 => tb { D with nx := N, ct := N, bk := D.nx } σ2 H2)
theorem tFor_tup : tFor (iTup K tl) g tb D σ H = tl σ H (ForI (Itt K) (fun H a => ∃ xs, SqT K H a xs) g tb D σ) := rfl
theorem tFor_lst : tFor (iList K tl) g tb D σ H = tl σ H (ForI (Itl K) (fun H a => ∃ xs, SqL K H a xs) g tb D σ) := rfl
theorem forT_in (hx : SqT K H a xs) (Pv : Nat → L2.St → Hp → Prop) (h0 : Pv 0 σ H) (hl : ∀ i σ' H', i ≤ xs.length → Pv i σ' H' → SqT K H' a xs) (hd : ∀ σ H, Pv xs.length σ H → D.nx σ H)
    (hs : ∀ (i : Nat) x σ H, xs[i]? = some x → Pv i σ H → g x σ H fun σ2 H2 => tb { D with nx := Pv (i + 1), ct := Pv (i + 1), bk := D.nx } σ2 H2) : ForI (Itt K) (fun H a => ∃ xs, SqT K H a xs) g tb D σ (.ref a) H :=
  ⟨a, rfl, ⟨xs, hx⟩, for_tup Pv h0 hl hs hd⟩
theorem forL_in (hx : SqL K H a xs) (Pv : Nat → L2.St → Hp → Prop) (h0 : Pv 0 σ H) (hl : ∀ i σ' H', i ≤ xs.length → Pv i σ' H' → SqL K H' a xs) (hd : ∀ σ H, Pv xs.length σ H → D.nx σ H)
    (hs : ∀ (i : Nat) x σ H, xs[i]? = some x → Pv i σ H → g x σ H fun σ2 H2 => tb { D with nx := Pv (i + 1), ct := Pv (i + 1), bk := D.nx } σ2 H2) : ForI (Itl K) (fun H a => ∃ xs, SqL K H a xs) g tb D σ (.ref a) H :=
  ⟨a, rfl, ⟨xs, hx⟩, for_list Pv h0 hl hs hd⟩
end

/-! comprehensions whose walked thing is reckoned first -/
section
variable {K : PySem.W.Frag} {σ : L2.St} {H : Hp} {te tl : TE} {tt : TT} {g : TG} {j : Nat} {vs : List Nat} {Q : VK} {a : Addr} {xs : List V}
def LcI (J : Addr → It) (S : Hp → Addr → Prop) (g : TG) (tt : TT) (te : TE) (vs : List Nat) (σ : L2.St) (Q : VK) (x : V) (H1 : Hp) : Prop := ∃ a, x = .ref a ∧ S H1 a ∧ ∀ D, H1 D = none → ∃ W : Nat → Nat → Hp → Prop, (∃ m, W 0 m (upd H1 D (.lst []))) ∧ ∀ i m H, W i m H →
  ((J a).stop i H ∧ Q (.ref D) H) ∨ ((J a).go i H ∧ ∃ Nx : Hp → Prop, (∀ H', Nx H' → ∃ m', m' < m ∧ W (i + 1) m' H') ∧ ∀ x H', (J a).yld i H x H' → g x (wipe σ vs) H' fun σ2 H2 => wipe σ2 vs = wipe σ vs ∧ tt σ2 H2 fun b H3 =>
    if b = true then te σ2 H3 fun y H4 => ∃ acc, H4 D = some (.lst acc) ∧ acc.length < sizeLine ∧ Nx (upd H4 D (.lst (acc ++ [y]))) else Nx H3)
theorem tLc_tup : tLc (iTup K tl) g tt te vs σ H Q = tl σ H (LcI (Itt K) (fun H a => ∃ xs, SqT K H a xs) g tt te vs σ Q) := rfl
theorem tLc_lst : tLc (iList K tl) g tt te vs σ H Q = tl σ H (LcI (Itl K) (fun H a => ∃ xs, SqL K H a xs) g tt te vs σ Q) := rfl
theorem lcT_in (f : Nat → Bool) (d : Nat → PyData) (hx : SqT K H a xs) (hn : xs.length ≤ 1000000) (hw : ∀ x, wipe ((wipe σ vs).set j (some x)) vs = wipe σ vs)
    (ht : ∀ (i : Nat) x H1, xs[i]? = some x → Ex H H1 → ∀ R : Bool → Hp → Prop, (∀ H2, Ex H1 H2 → R (f i) H2) → tt ((wipe σ vs).set j (some x)) H1 R)
    (he : ∀ (i : Nat) x H1, xs[i]? = some x → f i = true → Ex H H1 → ∀ R : VK, (∀ v H2, Ex H1 H2 → Rp H2 (New H1) v (d i) → R v H2) → te ((wipe σ vs).set j (some x)) H1 R)
    (k : ∀ v H', Ex H H' → Rp H' (New H) v (.list (((List.range xs.length).filter f).map d)) → Q v H') : LcI (Itt K) (fun H a => ∃ xs, SqT K H a xs) (gName j) tt te vs σ Q (.ref a) H := by
  refine ⟨a, rfl, ⟨xs, hx⟩, fun D hD => ?_⟩
  refine lc_tup (xs := xs) (LcAtF H D f d) (.start hD) (fun i H' _ p => Evl.ex_t p.2.1 hx) (fun i x H' hi p => ⟨hw _, lc_stepF p ?_ (fun H1 => ht i x H1 hi) (fun hf H1 => he i x H1 hi hf)⟩) (fun H' p => ?_)
  · have := (List.getElem?_eq_some_iff.mp hi).1; omega
  · obtain ⟨p1, p2, ys, p3, p4⟩ := p
    exact k _ _ p2 (.lst p1 p3 (p4.sub fun b q => q.1))
theorem lcL_in (f : Nat → Bool) (d : Nat → PyData) (hx : SqL K H a xs) (hn : xs.length ≤ 1000000) (hw : ∀ x, wipe ((wipe σ vs).set j (some x)) vs = wipe σ vs)
    (ht : ∀ (i : Nat) x H1, xs[i]? = some x → Ex H H1 → ∀ R : Bool → Hp → Prop, (∀ H2, Ex H1 H2 → R (f i) H2) → tt ((wipe σ vs).set j (some x)) H1 R)
    (he : ∀ (i : Nat) x H1, xs[i]? = some x → f i = true → Ex H H1 → ∀ R : VK, (∀ v H2, Ex H1 H2 → Rp H2 (New H1) v (d i) → R v H2) → te ((wipe σ vs).set j (some x)) H1 R)
    (k : ∀ v H', Ex H H' → Rp H' (New H) v (.list (((List.range xs.length).filter f).map d)) → Q v H') : LcI (Itl K) (fun H a => ∃ xs, SqL K H a xs) (gName j) tt te vs σ Q (.ref a) H := by
  refine ⟨a, rfl, ⟨xs, hx⟩, fun D hD => ?_⟩
  refine lc_list (xs := xs) (LcAtF H D f d) (.start hD) (fun i H' _ p => Evl.ex_l p.2.1 hx) (fun i x H' hi p => ⟨hw _, lc_stepF p ?_ (fun H1 => ht i x H1 hi) (fun hf H1 => he i x H1 hi hf)⟩) (fun H' p => ?_)
  · have := (List.getElem?_eq_some_iff.mp hi).1; omega
  · obtain ⟨p1, p2, ys, p3, p4⟩ := p
    exact k _ _ p2 (.lst p1 p3 (p4.sub fun b q => q.1))
end

/-! the cells of a script: the first ones, and a zero cell -/
section
variable {K : PySem.W.Frag} {σ : L2.St} {H : Hp} {tb : TS} {g : TG} {D : Ends} {S : Addr} {ns : List Int}
theorem for_cells {m : Int} (hσ : σ[0]? = some (some (.ref S))) (hS : SqL K H S (ns.map V.int)) (hl : ns.length ≤ 63) (Pv : L2.St → Hp → Prop) (h0 : ∀ H0, Ex H H0 → Pv σ H0)
    (hd : ∀ H0, Ex H H0 → ∀ σ' H', Ex H0 H' → Pv σ' H' → D.nx σ' H')
    (hs : ∀ H0, Ex H H0 → ∀ (x : Int) σ' H', Ex H0 H' → Pv σ' H' → g (.int x) σ' H' fun σ2 H2 => tb { D with nx := fun σ2 H2 => Ex H0 H2 ∧ Pv σ2 H2, ct := fun σ2 H2 => Ex H0 H2 ∧ Pv σ2 H2, bk := D.nx } σ2 H2) :
    tFor (iList K (tOp rCat (tSl (rSlL K) (tVar 0) tNoPart (tPart (tC (.int m)))) (tLst (tCons (tC (.int 0)) tNil)))) g tb D σ H := by
  have main : ∀ (p p2 p3 : Addr) (cs : List V), H p = none → upd H p (.lst cs) p2 = none → upd (upd H p (.lst cs)) p2 (.lst [.int 0]) p3 = none → cs = cutV (ns.map V.int) none (some m) →
      ForI (Itl K) (fun H a => ∃ xs, SqL K H a xs) g tb D σ (.ref p3) (upd (upd (upd H p (.lst cs)) p2 (.lst [.int 0])) p3 (.lst (cs ++ [.int 0]))) := by
    rintro p p2 p3 cs hp hp2 hp3 hc
    obtain ⟨ms, hm⟩ : ∃ ms : List Int, cs ++ [V.int 0] = ms.map V.int := by
      subst hc
      unfold cutV
      refine ⟨(ns.drop (HT.sIx (ns.map V.int).length 0 none)).take (HT.sIx (ns.map V.int).length (ns.map V.int).length (some m) - HT.sIx (ns.map V.int).length 0 none) ++ [0], ?_⟩
      rw [List.map_append, List.map_take, List.map_drop]
      rfl
    rw [hm]
    have e := ((exn (o := .lst cs) hp).trans (exn (o := .lst [V.int 0]) hp2)).trans (exn (o := .lst (ms.map V.int)) hp3)
    have hL : ∀ H', Ex (upd (upd (upd H p (.lst cs)) p2 (.lst [.int 0])) p3 (.lst (ms.map V.int))) H' → SqL K H' p3 (ms.map V.int) := fun H' e => Evl.ex_l e (sq_l upd_same)
    generalize upd (upd (upd H p (.lst cs)) p2 (.lst [.int 0])) p3 (.lst (ms.map V.int)) = H0 at *
    refine forL_in (hL H0 (.refl _)) (fun _ σ' H' => Ex H0 H' ∧ Pv σ' H') ⟨.refl _, h0 H0 e⟩ (fun i σ' H' _ h => hL H' h.1) (fun σ' H' h => hd H0 e σ' H' h.1 h.2) fun i x σ' H' hx h => ?_
    rw [List.getElem?_map] at hx
    obtain ⟨y, _, rfl⟩ := Option.map_eq_some_iff.mp hx
    exact hs H0 e y σ' H' h.1 h.2
  simp only [tFor_lst]
  refine ⟨_, hσ, m, rfl, S, _, rfl, hS, ?_⟩
  intro p hp
  simp only [tLst, tCons, tC, tNil, rCat]
  refine ⟨by rw [sizeLine_eq]; decide, ?_⟩
  intro p2 hp2
  exact ⟨p, p2, _, _, rfl, rfl, exn hp2 _ _ upd_same, upd_same, by
    have := cutV_length (ns.map V.int) none (some m)
    rw [List.length_map] at this
    rw [sizeLine_eq]
    show _ + 1 ≤ _
    omega, fun p3 hp3 => main p p2 p3 _ hp hp2 hp3 rfl⟩
end

/-! comprehensions over any walked thing, a turn at a time -/
section
variable {K : PySem.W.Frag} {σ : L2.St} {H : Hp} {ta : TA} {te : TE} {tt : TT} {g : TG} {vs : List Nat} {Q : VK} {a : Addr} {xs : List V} {J : It} {n : Nat} {G : Hp → Prop} {Y : Nat → Hp → V → Hp → Prop}
theorem LcAtF.no {f : Nat → Bool} {d : Nat → PyData} {D : Addr} {i : Nat} {H' H2 : Hp} (p : LcAtF H D f d i H') (hf : f i = false) (e : Ex H' H2) : LcAtF H D f d (i + 1) H2 := by
  obtain ⟨p1, p2, ys, p3, p4⟩ := p
  refine ⟨p1, p2.trans e, ys, e D _ p3, ?_⟩
  rw [List.range_succ, List.filter_append, List.filter_cons_of_neg (by simp [hf]), List.filter_nil, List.append_nil]
  exact p4.ex e
theorem LcAtF.yes {f : Nat → Bool} {d : Nat → PyData} {D : Addr} {i : Nat} {H' H2 : Hp} {v : V} (p : LcAtF H D f d i H') (hi : i < 1000000) (hf : f i = true) (e : Ex H' H2) (hv : Rp H2 (New H') v (d i)) :
    ∃ acc, H2 D = some (.lst acc) ∧ acc.length < sizeLine ∧ LcAtF H D f d (i + 1) (upd H2 D (.lst (acc ++ [v]))) := by
  obtain ⟨p1, p2, ys, p3, p4⟩ := p
  have len : ys.length ≤ i := by
    rw [p4.len, List.length_map]
    have := List.length_filter_le f (List.range i)
    rw [List.length_range] at this
    exact this
  have keep : ∀ (b : Addr) (o : HO), New H b ∧ b ≠ D → H2 b = some o → (upd H2 D (.lst (ys ++ [v]))) b = some o := fun b o m q => by rw [upd_ne m.2]; exact q
  refine ⟨ys, e D _ p3, ?_, p1, Mo.ex_new (p2.trans e) p1 Mo.upd, ys ++ [v], upd_same, ?_⟩
  · rw [sizeLine_eq]; omega
  · rw [List.range_succ, List.filter_append, List.filter_cons_of_pos hf, List.filter_nil, List.map_append]
    refine RpA.app ((p4.ex e).keep keep fun _ q => q) (.cons ?_ .nil)
    exact (hv.sub fun b q => ⟨Evl.fresh_back p2 q, lc_step.ne_of_none' q p3⟩).keep keep fun _ q => q
/-- what a comprehension does with what it walks -/
def LcJ (J : It) (g : TG) (tt : TT) (te : TE) (vs : List Nat) (σ : L2.St) (Q : VK) (H1 : Hp) : Prop := ∀ D, H1 D = none → ∃ W : Nat → Nat → Hp → Prop, (∃ m, W 0 m (upd H1 D (.lst []))) ∧ ∀ i m H, W i m H →
  (J.stop i H ∧ Q (.ref D) H) ∨ (J.go i H ∧ ∃ Nx : Hp → Prop, (∀ H', Nx H' → ∃ m', m' < m ∧ W (i + 1) m' H') ∧ ∀ x H', J.yld i H x H' → g x (wipe σ vs) H' fun σ2 H2 => wipe σ2 vs = wipe σ vs ∧ tt σ2 H2 fun b H3 =>
    if b = true then te σ2 H3 fun y H4 => ∃ acc, H4 D = some (.lst acc) ∧ acc.length < sizeLine ∧ Nx (upd H4 D (.lst (acc ++ [y]))) else Nx H3)
theorem lcJ_in (w : Walk J n G Y) (hY : ∀ i H x H', Y i H x H' → Ex H H') (f : Nat → Bool) (d : Nat → PyData) (hn : n ≤ 1000000) (hG : ∀ H', Ex H H' → G H')
    (hs : ∀ (i : Nat) x H1 H2, i < n → Ex H H1 → Y i H1 x H2 → ∀ (R : Hp → Prop) (Rt : VK), (f i = false → ∀ H3, Ex H2 H3 → R H3) → (f i = true → ∀ v H3, Ex H2 H3 → Rp H3 (New H2) v (d i) → Rt v H3) →
      g x (wipe σ vs) H2 fun σ2 H3 => wipe σ2 vs = wipe σ vs ∧ tt σ2 H3 fun b H4 => if b = true then te σ2 H4 Rt else R H4)
    (k : ∀ v H', Ex H H' → Rp H' (New H) v (.list (((List.range n).filter f).map d)) → Q v H') : LcJ J g tt te vs σ Q H := by
  intro D hD
  refine lc_it w (LcAtF H D f d) (.start hD) (fun i H' _ p => hG H' p.2.1) (fun i x H1 H2 hi p y => ?_) (fun H' p => ?_)
  · have e := hY _ _ _ _ y
    refine hs i x H1 H2 hi p.2.1 y _ _ (fun hf H3 e3 => p.no hf (e.trans e3)) fun hf v H3 e3 hv => p.yes (by omega) hf (e.trans e3) (hv.sub fun b q => Evl.fresh_back e q)
  · obtain ⟨p1, p2, ys, p3, p4⟩ := p
    exact k _ _ p2 (.lst p1 p3 (p4.sub fun b q => q.1))
theorem lcL_g (hx : SqL K H a xs) (f : Nat → Bool) (d : Nat → PyData) (hn : xs.length ≤ 1000000)
    (hs : ∀ (i : Nat) x H1, xs[i]? = some x → Ex H H1 → ∀ (R : Hp → Prop) (Rt : VK), (f i = false → ∀ H3, Ex H1 H3 → R H3) → (f i = true → ∀ v H3, Ex H1 H3 → Rp H3 (New H1) v (d i) → Rt v H3) →
      g x (wipe σ vs) H1 fun σ2 H3 => wipe σ2 vs = wipe σ vs ∧ tt σ2 H3 fun b H4 => if b = true then te σ2 H4 Rt else R H4)
    (k : ∀ v H', Ex H H' → Rp H' (New H) v (.list (((List.range xs.length).filter f).map d)) → Q v H') : LcI (Itl K) (fun H a => ∃ xs, SqL K H a xs) g tt te vs σ Q (.ref a) H := by
  refine ⟨a, rfl, ⟨xs, hx⟩, lcJ_in walk_list ?_ f d hn (fun H' e => Evl.ex_l e hx) ?_ k⟩
  · rintro i H1 x H2 ⟨rfl, _⟩
    exact .refl _
  · rintro i x H1 H2 hi e ⟨rfl, h2⟩ R Rt k1 k2
    exact hs i x _ h2 e R Rt k1 k2
theorem range_map {α β : Type} (l : List α) (f : α → β) (d : Nat → β) (h : ∀ i x, l[i]? = some x → d i = f x) : ((List.range l.length).filter fun _ => true).map d = l.map f := by
  rw [List.filter_eq_self.mpr (fun _ _ => rfl)]
  refine List.ext_getElem? fun i => ?_
  rw [List.getElem?_map, List.getElem?_map]
  by_cases q : i < l.length
  · rw [List.getElem?_range q, List.getElem?_eq_getElem q]
    exact congrArg some (h i _ (List.getElem?_eq_getElem q))
  · rw [List.getElem?_eq_none (by rw [List.length_range]; omega), List.getElem?_eq_none (by omega)]
    rfl
theorem tLc_enum : tLc (iEnum K ta) g tt te vs σ H Q = ta σ H fun us H1 => ∃ a xs, us = [.ref a] ∧ SqL K H1 a xs ∧ LcJ (Ite K a) g tt te vs σ Q H1 := rfl
theorem lcE_in (hx : SqL K H a xs) (f : Nat → Bool) (d : Nat → PyData) (hn : xs.length ≤ 1000000)
    (hs : ∀ (i : Nat) x T H1, xs[i]? = some x → Ex H H1 → H1 T = some (.tup [.int (i : Nat), x]) → ∀ (R : Hp → Prop) (Rt : VK), (f i = false → ∀ H3, Ex H1 H3 → R H3) → (f i = true → ∀ v H3, Ex H1 H3 → Rp H3 (New H1) v (d i) → Rt v H3) →
      g (.ref T) (wipe σ vs) H1 fun σ2 H3 => wipe σ2 vs = wipe σ vs ∧ tt σ2 H3 fun b H4 => if b = true then te σ2 H4 Rt else R H4)
    (k : ∀ v H', Ex H H' → Rp H' (New H) v (.list (((List.range xs.length).filter f).map d)) → Q v H') : LcJ (Ite K a) g tt te vs σ Q H := by
  refine lcJ_in walk_enum ?_ f d hn (fun H' e => Evl.ex_l e hx) ?_ k
  · rintro i H1 x H2 ⟨T, x1, y1, rfl, hT, rfl, _⟩
    exact exn hT
  · rintro i x H1 H2 hi e ⟨T, x1, y1, rfl, hT, rfl, h1, h2⟩ R Rt k1 k2
    cases h1
    exact hs i y1 T _ h2 (e.trans (exn hT)) upd_same R Rt k1 k2
end
theorem tup_fine {ns : List Int} (h : ∀ i ∈ ns, -MED < i ∧ i < MED) (hl : ns.length ≤ 1000) : fine 20 (.tuple (ns.map PyData.int)) = true ∧ sz (.tuple (ns.map PyData.int)) ≤ 16000000 := by
  refine ⟨fineAll_ints fun i hi => med_log (h i hi).1 (h i hi).2, ?_⟩
  show szAll (ns.map PyData.int) + 3 ≤ 16000000
  rw [szAll_ints]
  omega
theorem lst_fine {ns : List Int} (h : ∀ i ∈ ns, -MED < i ∧ i < MED) (hl : ns.length ≤ 1000) : fine 20 (.list (ns.map PyData.int)) = true ∧ sz (.list (ns.map PyData.int)) ≤ 16000000 := by
  refine ⟨fineAll_ints fun i hi => med_log (h i hi).1 (h i hi).2, ?_⟩
  show szAll (ns.map PyData.int) + 3 ≤ 16000000
  rw [szAll_ints]
  omega
theorem dp_tup {K : PySem.W.Frag} {H : Hp} {a : Addr} {ns : List Int} (h : H a = some (.tup (ns.map V.int))) : Dp K H (.ref a) (.tuple (ns.map PyData.int)) := .tup (sq_t h) dpa_ints
theorem dp_lst {K : PySem.W.Frag} {H : Hp} {a : Addr} {ns : List Int} (h : H a = some (.lst (ns.map V.int))) : Dp K H (.ref a) (.list (ns.map PyData.int)) := .lst (sq_l h) dpa_ints
theorem hu1 {k : Nat} {A : Around} (r : Room k A) : A.units + 1 < cLine := by have := r.units; omega
theorem filter_range (n a b : Nat) (ha : a ≤ b) (hb : b ≤ n) : (List.range n).filter (fun i => decide (a ≤ i ∧ i < b)) = (List.range (b - a)).map (a + ·) := by
  induction n generalizing b with
  | zero =>
    rw [show b - a = 0 by omega]; rfl
  | succ n ih =>
    rw [List.range_succ, List.filter_append]
    by_cases h : b = n + 1
    · subst h
      by_cases h2 : a = n + 1
      · subst h2
        rw [Nat.sub_self, List.filter_eq_nil_iff.mpr (fun i hi h => by have := of_decide_eq_true h; omega), List.filter_cons_of_neg (by simp)]
        rfl
      · rw [show n + 1 - a = n - a + 1 by omega, List.range_succ, List.map_append, List.filter_cons_of_pos (by simp; omega), List.filter_nil, ← ih n (by omega) (Nat.le_refl _)]
        have e1 : (List.range n).filter (fun i => decide (a ≤ i ∧ i < n + 1)) = (List.range n).filter (fun i => decide (a ≤ i ∧ i < n)) := List.filter_congr fun i hi => by
          have := List.mem_range.mp hi
          exact decide_eq_decide.mpr (by omega)
        rw [e1, List.map_cons, List.map_nil, show a + (n - a) = n by omega]
    · rw [ih b ha (by omega), List.filter_cons_of_neg (by simp; omega), List.filter_nil, List.append_nil]

/-! ### isinstance by the name of a type -/
/-- v is the int n (some n), or no int (a bool is none) -/
def NotInt (K : PySem.W.Frag) (H : Hp) (v : V) : Prop := ∃ t b1 b2, TyX K H v (.type t) ∧ kitB t "int" = some b1 ∧ kitB t "bool" = some b2 ∧ (b1 && !b2) = false
def IntOr (K : PySem.W.Frag) (H : Hp) (v : V) : Option Int → Prop
  | some n => v = .int n
  | none => NotInt K H v
def whole (o : Option Int) (lo hi : Int) : Bool := match o with
  | some n => decide (lo ≤ n ∧ n ≤ hi)
  | none => false
theorem kit_int_int : kitB "int" "int" = some true := by decide +kernel
theorem kit_int_bool : kitB "int" "bool" = some false := by decide +kernel

theorem atI_0 {α : Type} {a : α} {l : List α} : atI (a :: l) 0 = some a := atI_nat (j := 0) rfl
theorem atI_1 {α : Type} {a b : α} {l : List α} : atI (a :: b :: l) 1 = some b := atI_nat (j := 1) rfl
theorem atI_2 {α : Type} {a b c : α} {l : List α} : atI (a :: b :: c :: l) 2 = some c := atI_nat (j := 2) rfl
theorem atI_3 {α : Type} {a b c d : α} {l : List α} : atI (a :: b :: c :: d :: l) 3 = some d := atI_nat (j := 3) rfl
theorem atI_4 {α : Type} {a b c d e : α} {l : List α} : atI (a :: b :: c :: d :: e :: l) 4 = some e := atI_nat (j := 4) rfl
theorem atI_5 {α : Type} {a b c d e f : α} {l : List α} : atI (a :: b :: c :: d :: e :: f :: l) 5 = some f := atI_nat (j := 5) rfl
theorem atI_m1 {α : Type} {xs : List α} {v : α} (h : xs[xs.length - 1]? = some v) : atI xs (-1) = some v := by
  have hl := (List.getElem?_eq_some_iff.mp h).1
  unfold atI ixN
  rw [if_neg (by decide), if_pos (by omega)]
  show xs[((-1 : Int) + (xs.length : Int)).toNat]? = some v
  rw [show ((-1 : Int) + (xs.length : Int)).toNat = xs.length - 1 by omega]
  exact h
theorem atI_of {α : Type} {xs : List α} {i : Int} {j : Nat} {v : α} (e : i = (j : Int)) (h : xs[j]? = some v) : atI xs i = some v := by rw [e]; exact atI_nat h
theorem ixN_of {n j : Nat} {i : Int} (e : i = (j : Int)) (h : j < n) : ixN n i = some j := by rw [e]; exact Evl.ixN_nat h
theorem ixN_30 : ixN 3 0 = some 0 := by decide
theorem ixN_31 : ixN 3 1 = some 1 := by decide
theorem ixN_32 : ixN 3 2 = some 2 := by decide
theorem iteN {c A B : Prop} [Decidable c] (h : c) (b : B) : if ¬ c then A else B := by rw [if_neg (fun n => n h)]; exact b
theorem iteY {c A B : Prop} [Decidable c] (h : c) (a : A) : if c then A else B := by rw [if_pos h]; exact a
theorem iteNo {c A B : Prop} [Decidable c] (h : ¬ c) (b : B) : if c then A else B := by rw [if_neg h]; exact b
theorem iteTF {A B : Prop} (h : B) : if true = false then A else B := by rw [if_neg (by decide)]; exact h
theorem iteFF {A B : Prop} (h : A) : if false = false then A else B := by rw [if_pos rfl]; exact h
/-! ### bounds -/
theorem big_pow {a b : Nat} (h : a * b < 100000) {x y : Nat} (hx : x ≤ 2 ^ a) (hy : y ≤ b) : ((x ^ y : Nat) : Int) < BIG := by
  have h1 : x ^ y ≤ (2 ^ a) ^ b := Nat.le_trans (Nat.pow_le_pow_left hx y) (Nat.pow_le_pow_right (Nat.pow_pos (by decide)) hy)
  rw [← Nat.pow_mul] at h1
  have h2 : (2 : Nat) ^ (a * b) < 2 ^ 100000 := Nat.pow_lt_pow_right (by decide) h
  have h3 : x ^ y < 2 ^ 100000 := Nat.lt_of_le_of_lt h1 h2
  unfold BIG
  have e : ((2 : Int) ^ 100000) = ((2 ^ 100000 : Nat) : Int) := by rw [Int.natCast_pow] <;> rfl
  rw [e]
  exact Int.ofNat_lt.mpr h3

/-! ### the end of a law -/
/-- what is known of a law's script -/
theorem passX {P : Program} {w : World} {fr : List Env} {H : Hp} {s s' : Shared} {e : Value} (h : L2.CX P w fr H s (fun _ _ _ => False) e s') : False := by
  obtain ⟨_, _, _, _, _, _, _, _, _, _, _, _, z⟩ := h
  exact z.elim
theorem med_pow {a b : Nat} (h : a * b < 1900) {x y : Nat} (hx : x ≤ 2 ^ a) (hy : y ≤ b) : ((x ^ y : Nat) : Int) < MED := by
  have h1 : x ^ y ≤ (2 ^ a) ^ b := Nat.le_trans (Nat.pow_le_pow_left hx y) (Nat.pow_le_pow_right (Nat.pow_pos (by decide)) hy)
  rw [← Nat.pow_mul] at h1
  have h2 : (2 : Nat) ^ (a * b) < 2 ^ 1900 := Nat.pow_lt_pow_right (by decide) h
  have h3 : x ^ y < 2 ^ 1900 := Nat.lt_of_le_of_lt h1 h2
  unfold MED
  have e : ((2 : Int) ^ 1900) = ((2 ^ 1900 : Nat) : Int) := by rw [Int.natCast_pow] <;> rfl
  rw [e]
  exact Int.ofNat_lt.mpr h3
theorem law_go {P : Program} {w : World} {K : PySem.W.Frag} {mg mb : Str → Option Value} {k : Nat} {fa a : Addr} {fd : FuncData} {x : Str} {sp : Sp} {s : Shared} {vs : List Value} {ns : List Int}
    (inK : K.In s.heap) (hns : s.heap.Ns mainGlobals mg) (hb : s.heap.Ns builtinsNs mb) (hbb : ∀ x : Str, x ≠ "__name__" → mb x = bootBuiltins x)
    (lim : s.heap.NoLimit) (hg : s.gens = #[]) (ha : s.heap.get? a = some { cls := .type "list", data := .seq vs.toArray })
    (hi : IntsAre vs ns) (hl : ns.length ≤ sizeLine) (hr : Room k callerA)
    (F : ∀ base : Heap, K.In base → base.Ns mainGlobals mg → GOk P w K mg base (L2.CX P w) k fa fd [x] sp)
    (bind : ∀ (s : Shared) (u : Value), BindsTo s fd ⟨[u], []⟩ [(x, u)])
    (hsp : ∀ H : Hp, Only H → SqL K H a (ns.map V.int) → sp [.ref a] H (fun v _ => v = .bl true) fun _ _ _ => False) :
    codeAny (model P w) callerA (.call (.ref fa) ⟨[.ref a], []⟩) (fun r s' => r = .ok (.ret (.bool true)) ∧ OldK s.heap s'.heap ∧ s'.os = s.os ∧ AllBare s'.gens) s := by
  have rv := vals_ints hi
  have lenV := hi.length
  suffices main : ∀ H : Hp, Only H → SqL K H a (ns.map V.int) → HOk P w H s.heap → (∀ b o, H b = some o → b = a ∧ K.lookup a = none) →
      codeAny (model P w) callerA (.call (.ref fa) ⟨[.ref a], []⟩) (fun r s' => r = .ok (.ret (.bool true)) ∧ OldK s.heap s'.heap ∧ s'.os = s.os ∧ AllBare s'.gens) s by
    cases hk : K.lookup a with
    | some o =>
      have e := (inK a o hk).symm.trans ha
      cases e
      exact main (fun _ => none) (fun _ => .inl rfl) (.inr ⟨_, vs.toArray, _, hk, rfl, rfl, rfl, by rw [List.size_toArray, lenV]; exact hl, by simpa using rv⟩)
        (fun _ _ z => nomatch z) (fun _ _ z => nomatch z)
    | none =>
      let ob : Obj := { cls := .type "list", data := .seq vs.toArray }
      have at_ : ∀ b u, (if b = a then some (HO.frz ob (.lst (ns.map V.int))) else none) = some u → b = a ∧ u = .frz ob (.lst (ns.map V.int)) := fun b u z => by
        by_cases q : b = a
        · rw [if_pos q] at z; exact ⟨q, (Option.some.inj z).symm⟩
        · rw [if_neg q] at z; cases z
      refine main (fun b => if b = a then some (.frz ob (.lst (ns.map V.int))) else none) (fun b => ?_) (.inl (.inr ⟨ob, if_pos rfl⟩)) (fun b u z => ?_) (fun b u z => ⟨(at_ b u z).1, hk⟩)
      · by_cases q : b = a
        · exact .inr ⟨_, _, if_pos q⟩
        · exact .inl (if_neg q)
      · obtain ⟨rfl, rfl⟩ := at_ b u z
        exact ⟨ha, by rw [List.length_map]; exact hl, vs, _, rv, ha⟩
  intro H hO hS hok hA
  have seen : ∀ {b : Addr} {o : Obj}, s.heap.get? b = some o → H b = none → (hidT s.heap H).get? b = some o := fun e n => hidT_get e n
  have nsK : ∀ {b : Addr} {m : Str → Option Value}, s.heap.Ns b m → (hidT s.heap H).Ns b m := by
    rintro b m ⟨o, es, ep, e, d, r⟩
    refine ⟨o, es, ep, seen e ?_, d, r⟩
    cases q : H b with
    | none => rfl
    | some u =>
      rw [(hA b u q).1, ha] at e
      cases e
      cases (show Data.seq vs.toArray _ = Data.dict es ep from d)
  have KB : K.In (hidT s.heap H) := fun b o e => seen (inK b o e) (by
    cases q : H b with
    | none => rfl
    | some u =>
      obtain ⟨e1, e2⟩ := hA b u q
      rw [e1, e2] at e
      cases e)
  obtain ⟨mc, l1, l2⟩ := lim
  have M : Mod K mg (hidT s.heap H) := ⟨KB, nsK hns, ⟨mb, nsK hb, hbb⟩, ⟨mc, nsK l1, l2⟩⟩
  have e0 : Env0 P w K mg (hidT s.heap H) callerA [] s H :=
    ⟨rfl, M, fun b o e => of_hidT e, Nat.le_of_eq (hidT_size _ _), trivial, fun b hb => (List.not_mem_nil (show b ∈ ([] : List Addr) from hb)).elim, hok, .of_eq hg⟩
  refine codeAny_mono ((F _ KB (nsK hns)).go callerA [] s H ⟨[.ref a], []⟩ [.ref a] [.ref a] _ _ hr rfl e0 (bind s (.ref a)) (.cons rfl .nil) (hsp H hO hS)) ?_
  rintro (e | fl) s' h
  · exact (passX h).elim
  · cases fl with
    | ret u =>
      obtain ⟨v, H', os, bare, un, hok', r', q⟩ := h
      cases (show v = .bl true from q)
      cases (show u = Value.bool true from r')
      refine ⟨rfl, OldK.of_keep fun b o e => ?_, os, bare⟩
      cases q : H b with
      | none => exact un.keep b o e q (fun z => List.not_mem_nil (show b ∈ ([] : List Addr) from z)) (by simp)
      | some u =>
        rcases hO b with z | ⟨ob, xs, z⟩
        · rw [q] at z; cases z
        · have e1 : s.heap.get? b = some ob := (hok b _ z).1
          have e2 : s'.heap.get? b = some ob := (hok' b _ (un.frzs b ob _ z)).1
          rw [e1] at e
          rw [e2, e]
    | _ => exact h.elim
/-- the goal behind the head, from the promise of the law's def -/
theorem walk_g {l : PySem.W.OpenLaw} {n k : Nat} {q : Program} {loose : List Str} {XP : (Str → Option Value) → Heap → Prop} {YP : World → Heap → Prop} {d : DefRec} {x : Str}
    (hn : l.most = some n) (hn2 : n ≤ sizeLine) (hdf : d.params.defaults = []) (hr : Room k callerA)
    (F : ∀ (w : World) (mg : Str → Option Value) (fa : Addr) (h : Heap), YP w h → h.Ns mainGlobals mg → mg d.name = some (.ref fa) →
      ∃ (K : PySem.W.Frag) (fd : FuncData) (sp : Sp), K.In h ∧ (∀ (s : Shared) (u : Value), BindsTo s fd ⟨[u], []⟩ [(x, u)]) ∧
        (∀ (H : Hp) (a : Addr) (ns : List Int), ns.length ≤ n → Only H → SqL K H a (ns.map V.int) → sp [.ref a] H (fun v _ => v = .bl true) fun _ _ _ => False) ∧
        ∀ base : Heap, K.In base → base.Ns mainGlobals mg → GOk l.prog w K mg base (L2.CX l.prog w) k fa fd [x] sp) :
    PySem.W.WalkO q loose XP YP l.row.toRowW d [] (fun f vs => PySem.call f vs) := by
  refine Att.attach_call hn hdf ?_
  intro w s₀ s₁ mg mb fa o pm cd doc a vs ns G Y ho hd hcd hmg hobj hints hlen hg
  obtain ⟨K, fd, sp, KX, hb, hsp, hF⟩ := F w mg fa _ Y G.T.g hmg
  exact law_go KX G.T.g G.T.b G.T.builtins G.T.nolimit hg hobj hints (Nat.le_trans hlen hn2) hr hF hb fun H hO hS => hsp H a ns hlen hO hS
theorem law_in {K : PySem.W.Frag} {H : Hp} {a : Addr} {ns : List Int} (hl : ns.length ≤ 63) (hS : SqL K H a (ns.map V.int)) {Q : VK} {E : XK} (hQ : ∀ H', Q (.bl true) H') :
    sp1 (fun x H Q _ => ∃ (a : Addr) (ns : List Int), x = .ref a ∧ SqL K H a (ns.map V.int) ∧ ns.length ≤ 63 ∧ ∀ H', Q (.bl true) H') [.ref a] H Q E := ⟨_, rfl, a, ns, rfl, hS, hl, hQ⟩
end Bs

namespace Bs
/-! ### reaches: the ways to choose, by adding up -/
def R : Nat → Nat → Nat
  | 0 => fun _ => 1
  | s + 1 => fun r => Nat.rec (motive := fun _ => Nat) 1 (fun k ih => R s (k + 1) + ih) r
theorem R_z (s : Nat) : R s 0 = 1 := by cases s <;> rfl
theorem R_0 (r : Nat) : R 0 r = 1 := rfl
theorem R_ss (s r : Nat) : R (s + 1) (r + 1) = R s (r + 1) + R (s + 1) r := rfl
theorem R_comm : ∀ s r : Nat, R s r = R r s
  | 0, r => by rw [R_0, R_z]
  | s + 1, 0 => by rw [R_0, R_z]
  | s + 1, r + 1 => by rw [R_ss, R_ss, R_comm s (r + 1), R_comm (s + 1) r, Nat.add_comm]
theorem R_pos (s r : Nat) : 0 < R s r := by
  induction s generalizing r with
  | zero => rw [R_0]; decide
  | succ s ih =>
    cases r with
    | zero => rw [R_z]; decide
    | succ r => rw [R_ss]; have := ih (r + 1); omega
/-- one slot more: times s + r + 1, over s + 1 -/
theorem R_up : ∀ s r : Nat, R (s + 1) r * (s + 1) = R s r * (s + r + 1)
  | 0, 0 => rfl
  | 0, r + 1 => by
    have ih := R_up 0 r
    rw [R_0] at ih ⊢
    rw [R_ss, R_0]
    omega
  | s + 1, 0 => by rw [R_z, R_z]
  | s + 1, r + 1 => by
    have h1 := R_up s (r + 1)
    have h2 := R_up (s + 1) r
    rw [R_ss (s + 1) r, Nat.add_mul, h2]
    rw [R_ss s r]
    rw [R_ss s r] at h1
    -- h1: (A + B)(s+1) = A (s + r + 2), A = R s (r+1), B = R (s+1) r
    generalize R s (r + 1) = A at *
    generalize R (s + 1) r = B at *
    have e1 : (A + B) * (s + 1) = A * s + A + B * s + B := by
      rw [Nat.mul_add, Nat.add_mul, Nat.mul_one]; omega
    have e2 : A * (s + (r + 1) + 1) = A * s + A * r + A + A := by
      rw [Nat.mul_add, Nat.mul_add, Nat.mul_add]; omega
    have e3 : (A + B) * (s + 1 + 1) = A * s + B * s + A + A + B + B := by
      rw [Nat.mul_add, Nat.mul_add, Nat.add_mul]; omega
    have e4 : B * (s + 1 + r + 1) = B * s + B + B * r + B := by
      rw [Nat.mul_add, Nat.mul_add, Nat.mul_add]; omega
    have e6 : ∀ X : Nat, X * (s + 1 + (r + 1) + 1) = X * s + X * r + X + X + X := fun X => by
      rw [Nat.mul_add, Nat.mul_add, Nat.mul_add, Nat.mul_add]; omega
    have e5 : (A + B) * (s + 1 + (r + 1) + 1) = A * s + A * r + A + A + A + (B * s + B * r + B + B + B) := by
      rw [Nat.add_mul, e6, e6]
    rw [e1, e2] at h1
    rw [e3, e4, e5]
    omega
theorem R_right (s r : Nat) : R s (r + 1) * (r + 1) = R s r * (s + r + 1) := by
  rw [R_comm s (r + 1), R_up r s, R_comm r s, Nat.add_comm r s]
theorem R_le : ∀ s r : Nat, R s r ≤ (r + 1) ^ s
  | 0, r => by rw [R_0, Nat.pow_zero]; exact Nat.le_refl _
  | s + 1, 0 => by rw [R_z]; exact Nat.pos_of_ne_zero (by simp)
  | s + 1, r + 1 => by
    have h1 := R_le s (r + 1)
    have h2 := R_le (s + 1) r
    rw [R_ss, Nat.pow_succ, Nat.mul_add, Nat.mul_one]
    have h3 : (r + 1) ^ (s + 1) ≤ (r + 1 + 1) ^ s * (r + 1) := by
      rw [Nat.pow_succ]
      exact Nat.mul_le_mul_right _ (Nat.pow_le_pow_left (Nat.le_succ _) s)
    omega
theorem R_mono_r (s r : Nat) : R s r ≤ R s (r + 1) := by
  cases s with
  | zero => exact Nat.le_refl _
  | succ s => rw [R_ss]; omega
theorem R_mono {s r r' : Nat} (h : r ≤ r') : R s r ≤ R s r' := by
  induction h with
  | refl => exact Nat.le_refl _
  | step _ ih => exact Nat.le_trans ih (R_mono_r _ _)
theorem R_mono_l {s s' r : Nat} (h : s ≤ s') : R s r ≤ R s' r := by
  rw [R_comm s, R_comm s']
  exact R_mono h
theorem R_one (r : Nat) : R 1 r = r + 1 := by
  induction r with
  | zero => rfl
  | succ r ih => rw [R_ss, R_0, ih]; omega
/-- with rounds that may be -1 -/
def Rz (s r : Int) : Int := if r < 0 then (if s ≤ 0 then 1 else 0) else (R s.toNat r.toNat : Nat)
theorem Rz_nat (s r : Nat) : Rz s r = (R s r : Nat) := by
  unfold Rz
  rw [if_neg (by omega)]
  rfl
theorem Rz_neg {s : Int} (h : 0 < s) : Rz s (-1) = 0 := by
  unfold Rz
  rw [if_pos (by omega), if_neg (by omega)]
theorem Rz_of {s r : Int} (hs : 0 ≤ s) (hr : 0 ≤ r) : Rz s r = (R s.toNat r.toNat : Nat) := by
  unfold Rz
  rw [if_neg (by omega)]
theorem Rz_zero {r : Int} : Rz 0 r = 1 := by
  unfold Rz
  split <;> rfl
theorem Rz_nonneg (s r : Int) : 0 ≤ Rz s r := by
  unfold Rz
  split
  · split <;> omega
  · omega
theorem Rz_pascal {s r : Int} (h1 : 1 < s) (h2 : 0 < r) : Rz s r = Rz (s - 1) r + Rz s (r - 1) := by
  obtain ⟨s, rfl⟩ := Int.eq_ofNat_of_zero_le (by omega : 0 ≤ s)
  obtain ⟨r, rfl⟩ := Int.eq_ofNat_of_zero_le (by omega : 0 ≤ r)
  obtain ⟨s, rfl⟩ : ∃ t, s = t + 1 := ⟨s - 1, by omega⟩
  obtain ⟨r, rfl⟩ : ∃ t, r = t + 1 := ⟨r - 1, by omega⟩
  rw [show ((s + 1 : Nat) : Int) - 1 = (s : Int) by omega, show ((r + 1 : Nat) : Int) - 1 = (r : Int) by omega, Rz_nat, Rz_nat, Rz_nat, R_ss]
  omega
theorem Rz_comm {s r : Int} (h1 : 0 ≤ s) (h2 : 0 ≤ r) : Rz s r = Rz r s := by
  rw [Rz_of h1 h2, Rz_of h2 h1, R_comm]
theorem Rz_one {r : Int} (h : 0 ≤ r) : Rz 1 r = r + 1 := by
  rw [Rz_of (by decide) h, show (1 : Int).toNat = 1 by rfl, R_one]
  omega
theorem Rz_r0 {s : Int} (h : 0 ≤ s) : Rz s 0 = 1 := by
  rw [Rz_of h (Int.le_refl _), show (0 : Int).toNat = 0 by rfl, R_z]
  rfl
/-- one turn of reach_of -/
theorem Rz_turn {j r : Int} (hj : 0 ≤ j) (hr : -1 ≤ r) : Rz j r * (r + (j + 1)) / (j + 1) = Rz (j + 1) r := by
  by_cases h : r < 0
  · have e : r = -1 := by omega
    subst e
    by_cases h0 : j = 0
    · subst h0; rfl
    · rw [Rz_neg (by omega), Rz_neg (by omega), Int.zero_mul, Int.zero_ediv]
  · obtain ⟨j, rfl⟩ := Int.eq_ofNat_of_zero_le hj
    obtain ⟨r, rfl⟩ := Int.eq_ofNat_of_zero_le (by omega : 0 ≤ r)
    have e1 : Rz (j : Int) r = (R j r : Nat) := Rz_nat j r
    have e2 : Rz ((j : Int) + 1) r = (R (j + 1) r : Nat) := Rz_nat (j + 1) r
    rw [e1, e2]
    have h := R_up j r
    have h2 : ((R j r : Nat) : Int) * ((r : Int) + ((j : Int) + 1)) = ((R (j + 1) r : Nat) : Int) * ((j : Int) + 1) := by
      have : (r : Int) + ((j : Int) + 1) = ((j + r + 1 : Nat) : Int) := by omega
      rw [this, show ((j : Int) + 1) = ((j + 1 : Nat) : Int) by omega, ← Int.natCast_mul, ← Int.natCast_mul, h]
    rw [h2]
    exact Int.mul_ediv_cancel _ (by omega)
/-- one turn of choosing from above: over n = s + r things, j of them -/
theorem R_turn {s r j : Nat} (hj : j < s + r) : R j (s + r - j) * (s + r - j) = R (j + 1) (s + r - (j + 1)) * (j + 1) := by
  obtain ⟨m, hm⟩ : ∃ m, s + r = j + 1 + m := ⟨s + r - (j + 1), by omega⟩
  rw [hm, show j + 1 + m - j = m + 1 by omega, show j + 1 + m - (j + 1) = m by omega]
  rw [R_right j m, R_up j m]
end Bs

namespace Bs
/-! ### rounds -/
def rhoA (s n : Nat) : Nat → Nat → Nat
  | 0, r => r
  | k + 1, r => if n ≤ R s r then r else rhoA s n k (r + 1)
/-- the least number of rounds that reach n states (1 slot or more) -/
def rhoN (n s : Nat) : Nat := rhoA s n n 0
theorem R_gt {s : Nat} (h : 1 ≤ s) (r : Nat) : r + 1 ≤ R s r := by
  have := R_mono_l (s := 1) (s' := s) (r := r) h
  rw [R_one] at this
  exact this
theorem rhoA_spec {s n : Nat} : ∀ (k r : Nat), n ≤ R s (r + k) → n ≤ R s (rhoA s n k r) ∧ r ≤ rhoA s n k r ∧ ∀ q, r ≤ q → q < rhoA s n k r → R s q < n
  | 0, r, h => ⟨h, Nat.le_refl _, fun q h1 h2 => by simp [rhoA] at h2; omega⟩
  | k + 1, r, h => by
    unfold rhoA
    split
    · rename_i h1
      exact ⟨h1, Nat.le_refl _, fun q h2 h3 => by omega⟩
    · rename_i h1
      obtain ⟨a, b, c⟩ := rhoA_spec k (r + 1) (by rw [show r + 1 + k = r + (k + 1) by omega]; exact h)
      refine ⟨a, by omega, fun q h2 h3 => ?_⟩
      by_cases e : q = r
      · subst e; omega
      · exact c q (by omega) h3
theorem rhoN_spec {n s : Nat} (h : 1 ≤ s) : n ≤ R s (rhoN n s) ∧ ∀ q, q < rhoN n s → R s q < n := by
  have h1 := R_gt h n
  obtain ⟨a, b, c⟩ := rhoA_spec (s := s) (n := n) n 0 (by rw [Nat.zero_add]; omega)
  exact ⟨a, fun q hq => c q (Nat.zero_le _) hq⟩
theorem rhoN_eq {n s r : Nat} (h : 1 ≤ s) (h1 : n ≤ R s r) (h2 : ∀ q, q < r → R s q < n) : rhoN n s = r := by
  obtain ⟨a, b⟩ := rhoN_spec (n := n) h
  rcases Nat.lt_trichotomy (rhoN n s) r with h3 | h3 | h3
  · have := h2 _ h3; omega
  · exact h3
  · have := b _ h3; omega
/-- the same over the ints -/
def rho (n s : Int) : Int := (rhoN n.toNat s.toNat : Nat)
theorem rho_nonneg (n s : Int) : 0 ≤ rho n s := by unfold rho; omega
theorem Rz_mono {s r r' : Int} (hs : 0 ≤ s) (h : r ≤ r') (h0 : -1 ≤ r) : Rz s r ≤ Rz s r' := by
  by_cases hr : r < 0
  · have e : r = -1 := by omega
    subst e
    by_cases h2 : s = 0
    · subst h2; rw [Rz_zero, Rz_zero]; exact Int.le_refl _
    · rw [Rz_neg (by omega)]; exact Rz_nonneg _ _
  · rw [Rz_of hs (by omega), Rz_of hs (by omega)]
    exact Int.ofNat_le.mpr (R_mono (by omega))
theorem Rz_gt {s r : Int} (hs : 1 ≤ s) (hr : 0 ≤ r) : r + 1 ≤ Rz s r := by
  rw [Rz_of (by omega) hr]
  have := R_gt (s := s.toNat) (by omega) r.toNat
  omega
theorem rho_reach {n s : Int} (hs : 1 ≤ s) : n ≤ Rz s (rho n s) := by
  unfold rho
  rw [Rz_of (by omega) (by omega)]
  have := (rhoN_spec (n := n.toNat) (s := s.toNat) (by omega)).1
  simp only [Int.toNat_natCast]
  omega
theorem rho_least {n s q : Int} (hn : 1 ≤ n) (hs : 1 ≤ s) (h0 : -1 ≤ q) (h : q < rho n s) : Rz s q < n := by
  by_cases hq : q < 0
  · have e : q = -1 := by omega
    subst e
    rw [Rz_neg (by omega)]; omega
  · rw [Rz_of (by omega) (by omega)]
    have := (rhoN_spec (n := n.toNat) (s := s.toNat) (by omega)).2 q.toNat (by unfold rho at h; omega)
    omega
theorem rho_eq {n s r : Int} (hn : 1 ≤ n) (hs : 1 ≤ s) (h0 : 0 ≤ r) (h1 : n ≤ Rz s r) (h2 : Rz s (r - 1) < n) : rho n s = r := by
  rcases Int.lt_trichotomy (rho n s) r with h | h | h
  · have a := rho_reach (n := n) hs
    have b := Rz_mono (s := s) (r := rho n s) (r' := r - 1) (by omega) (by omega) (by have := rho_nonneg n s; omega)
    omega
  · exact h
  · have := rho_least (q := r) hn hs (by omega) h
    omega
theorem rho_le {n s r : Int} (hn : 1 ≤ n) (hs : 1 ≤ s) (h0 : 0 ≤ r) : rho n s ≤ r ↔ n ≤ Rz s r := by
  constructor
  · intro h
    exact Int.le_trans (rho_reach hs) (Rz_mono (by omega) h (by have := rho_nonneg n s; omega))
  · intro h
    by_cases h2 : rho n s ≤ r
    · exact h2
    · have := rho_least (q := r) hn hs (by omega) (by omega)
      omega
theorem rho_lt {n s : Int} (hn : 1 ≤ n) (hs : 1 ≤ s) : rho n s < n := by
  have := (rho_le (n := n) (s := s) (r := n - 1) hn hs (by omega)).mpr (by have := Rz_gt (s := s) (r := n - 1) hs (by omega); omega)
  omega
/-! ### the least steps -/
def tz (n s : Int) : Int := rho n s * n - Rz (s + 1) (rho n s - 1)
/-- one round more or less is never more -/
theorem Rz_next {s r : Int} (hs : 0 ≤ s) (hr : 0 ≤ r) : Rz (s + 1) r = Rz s r + Rz (s + 1) (r - 1) := by
  by_cases h : r = 0
  · subst h
    rw [Rz_r0 (by omega), Rz_r0 hs, show (0 : Int) - 1 = -1 by rfl, Rz_neg (by omega)]
    rfl
  · by_cases h2 : s = 0
    · subst h2
      rw [show (0 : Int) + 1 = 1 by rfl, Rz_zero, Rz_one hr, Rz_one (by omega)]
      omega
    · have := Rz_pascal (s := s + 1) (r := r) (by omega) (by omega)
      rw [show s + 1 - 1 = s by omega] at this
      exact this
/-- the line of k rounds at n -/
def lin (n s k : Int) : Int := k * n - Rz (s + 1) (k - 1)
theorem lin_step {n s k : Int} (hs : 0 ≤ s) (hk : 0 ≤ k) : lin n s (k + 1) = lin n s k + (n - Rz s k) := by
  unfold lin
  rw [show k + 1 - 1 = k by omega, Rz_next hs hk, Int.add_mul, Int.one_mul]
  omega
theorem lin_up {n s : Int} (hs : 0 ≤ s) (k : Int) (hk : 0 ≤ k) : ∀ d : Nat, n ≤ Rz s k → lin n s (k + d) ≤ lin n s k
  | 0, _ => by simp
  | d + 1, h => by
    have ih := lin_up hs k hk d h
    have e := lin_step (n := n) (k := k + d) hs (by omega)
    have m := Rz_mono (s := s) (r := k) (r' := k + d) hs (by omega) (by omega)
    rw [show k + ((d + 1 : Nat) : Int) = k + d + 1 by omega, e]
    omega
theorem lin_down {n s : Int} (hs : 0 ≤ s) (k : Int) : ∀ d : Nat, 0 ≤ k - d → Rz s (k - 1) ≤ n → lin n s (k - d) ≤ lin n s k
  | 0, _, _ => by simp
  | d + 1, h0, h => by
    have ih := lin_down hs k d (by omega) h
    have e := lin_step (n := n) (k := k - (d + 1 : Nat)) hs h0
    have m := Rz_mono (s := s) (r := k - (d + 1 : Nat)) (r' := k - 1) hs (by omega) (by omega)
    rw [show k - ((d + 1 : Nat) : Int) + 1 = k - d by omega] at e
    omega
theorem tz_lin {n s : Int} : tz n s = lin n s (rho n s) := rfl
/-- t is the greatest of its lines -/
theorem tz_ge {n s k : Int} (hn : 1 ≤ n) (hs : 1 ≤ s) (hk : 0 ≤ k) : lin n s k ≤ tz n s := by
  rw [tz_lin]
  have h0 := rho_nonneg n s
  rcases Int.le_total (rho n s) k with h | h
  · have := lin_up (n := n) (s := s) (by omega) (rho n s) h0 (k - rho n s).toNat (rho_reach hs)
    rw [show rho n s + ((k - rho n s).toNat : Int) = k by omega] at this
    exact this
  · have h1 : Rz s (rho n s - 1) ≤ n := Int.le_of_lt (rho_least hn hs (by omega) (by omega))
    have := lin_down (n := n) (s := s) (by omega) (rho n s) (rho n s - k).toNat (by omega) h1
    rw [show rho n s - ((rho n s - k).toNat : Int) = k by omega] at this
    exact this
/-- .. and is the line of k rounds just where these reach -/
theorem tz_at {n s k : Int} (hn : 1 ≤ n) (hs : 1 ≤ s) (hk : 0 ≤ k) (h1 : Rz s (k - 1) ≤ n) (h2 : n ≤ Rz s k) : tz n s = lin n s k := by
  have h0 := rho_nonneg n s
  have hle : rho n s ≤ k := (rho_le hn hs hk).mpr h2
  by_cases e : rho n s = k
  · rw [tz_lin, e]
  · have hr := rho_reach (n := n) hs
    have hm := Rz_mono (s := s) (r := rho n s) (r' := k - 1) (by omega) (by omega) (by omega)
    have a := tz_ge (k := k) hn hs hk
    have b := lin_down (n := n) (s := s) (by omega) k (k - rho n s).toNat (by omega) h1
    rw [show k - ((k - rho n s).toNat : Int) = rho n s by omega] at b
    rw [tz_lin] at a ⊢
    omega
theorem tz_gt {n s k : Int} (hn : 1 ≤ n) (hs : 1 ≤ s) (hk : 0 ≤ k) (h : n < Rz s (k - 1) ∨ Rz s k < n) : lin n s k < tz n s := by
  rcases h with h | h
  · have hk1 : 1 ≤ k := by
      by_cases e : k = 0
      · subst e
        rw [show (0 : Int) - 1 = -1 by rfl, Rz_neg (by omega)] at h
        omega
      · omega
    have a := tz_ge (k := k - 1) hn hs (by omega)
    have e := lin_step (n := n) (s := s) (k := k - 1) (by omega) (by omega)
    rw [show k - 1 + 1 = k by omega] at e
    omega
  · have a := tz_ge (k := k + 1) hn hs (by omega)
    have e := lin_step (n := n) (s := s) (k := k) (by omega) hk
    omega
theorem rho_one {s : Int} (hs : 1 ≤ s) : rho 1 s = 0 := rho_eq (Int.le_refl _) hs (Int.le_refl _) (by rw [Rz_r0 (by omega)]; exact Int.le_refl _) (by rw [show (0 : Int) - 1 = -1 by rfl, Rz_neg (by omega)]; decide)
theorem rho_pos {n s : Int} (hn : 2 ≤ n) (hs : 1 ≤ s) : 1 ≤ rho n s := by
  have h0 := rho_nonneg n s
  have h := rho_reach (n := n) hs
  by_cases e : rho n s = 0
  · rw [e, Rz_r0 (by omega)] at h; omega
  · omega
theorem tz_one {s : Int} (hs : 1 ≤ s) : tz 1 s = 0 := by
  unfold tz
  rw [rho_one hs, show (0 : Int) - 1 = -1 by rfl, Rz_neg (by omega)]
  rfl
theorem tz_nonneg {n s : Int} (hn : 1 ≤ n) (hs : 1 ≤ s) : 0 ≤ tz n s := by
  have := tz_ge (k := 0) hn hs (Int.le_refl _)
  unfold lin at this
  rw [show (0 : Int) - 1 = -1 by rfl, Rz_neg (by omega)] at this
  omega
/-! ### splits -/
def fz (n s m : Int) : Int := m + tz (n - m) (s - 1) + tz m s
theorem lin_split {n s m r : Int} (hs : 2 ≤ s) (hr : 1 ≤ r) : m + lin (n - m) (s - 1) r + lin m s (r - 1) = lin n s r := by
  unfold lin
  have e := Rz_next (s := s) (r := r - 1) (by omega) (by omega)
  rw [show s - 1 + 1 = s by omega, show r - 1 - 1 = r - 2 by omega] at *
  rw [e, Int.mul_sub, Int.sub_mul, Int.one_mul]
  omega
/-- no split is better -/
theorem tz_le_fz {n s m : Int} (hs : 2 ≤ s) (h1 : 1 ≤ m) (h2 : m < n) : tz n s ≤ fz n s m := by
  have hr := rho_pos (n := n) (s := s) (by omega) (by omega)
  have e := lin_split (n := n) (m := m) hs hr
  have a := tz_ge (n := n - m) (s := s - 1) (k := rho n s) (by omega) (by omega) (by omega)
  have b := tz_ge (n := m) (s := s) (k := rho n s - 1) h1 (by omega) (by omega)
  unfold fz
  rw [tz_lin (n := n)]
  omega
/-- the stretch of the best ones -/
def Best (n s m : Int) : Prop := Rz s (rho n s - 2) ≤ m ∧ m ≤ Rz s (rho n s - 1) ∧ Rz (s - 1) (rho n s - 1) ≤ n - m ∧ n - m ≤ Rz (s - 1) (rho n s)
theorem tz_best {n s m : Int} (hs : 2 ≤ s) (h1 : 1 ≤ m) (h2 : m < n) (h : Best n s m) : fz n s m = tz n s := by
  have hr := rho_pos (n := n) (s := s) (by omega) (by omega)
  have e := lin_split (n := n) (m := m) hs hr
  obtain ⟨b1, b2, b3, b4⟩ := h
  have a := tz_at (n := n - m) (s := s - 1) (k := rho n s) (by omega) (by omega) (by omega) b3 b4
  have b := tz_at (n := m) (s := s) (k := rho n s - 1) h1 (by omega) (by omega) (by rw [show rho n s - 1 - 1 = rho n s - 2 by omega]; exact b1) b2
  unfold fz
  rw [a, b, tz_lin (n := n)]
  omega
theorem tz_lt_fz {n s m : Int} (hs : 2 ≤ s) (h1 : 1 ≤ m) (h2 : m < n) (h : ¬ Best n s m) : tz n s < fz n s m := by
  have hr := rho_pos (n := n) (s := s) (by omega) (by omega)
  have e := lin_split (n := n) (m := m) hs hr
  have a := tz_ge (n := n - m) (s := s - 1) (k := rho n s) (by omega) (by omega) (by omega)
  have b := tz_ge (n := m) (s := s) (k := rho n s - 1) h1 (by omega) (by omega)
  have c : lin (n - m) (s - 1) (rho n s) < tz (n - m) (s - 1) ∨ lin m s (rho n s - 1) < tz m s := by
    unfold Best at h
    by_cases q1 : Rz (s - 1) (rho n s - 1) ≤ n - m ∧ n - m ≤ Rz (s - 1) (rho n s)
    · refine .inr (tz_gt h1 (by omega) (by omega) ?_)
      rw [show rho n s - 1 - 1 = rho n s - 2 by omega]
      omega
    · exact .inl (tz_gt (by omega) (by omega) (by omega) (by omega))
  unfold fz
  rw [tz_lin (n := n)]
  omega
/-- there is a best one -/
theorem best_is {n s : Int} (hn : 2 ≤ n) (hs : 2 ≤ s) : ∃ m, 1 ≤ m ∧ m < n ∧ Best n s m := by
  have hr := rho_pos (n := n) (s := s) hn (by omega)
  have h1 := rho_reach (n := n) (s := s) (by omega)
  have h2 := rho_least (n := n) (s := s) (q := rho n s - 1) (by omega) (by omega) (by omega) (by omega)
  unfold Best
  generalize rho n s = r at *
  have e1 := Rz_next (s := s - 1) (r := r) (by omega) (by omega)
  rw [show s - 1 + 1 = s by omega] at e1
  have p1 : 1 ≤ Rz s (r - 1) := by have := Rz_gt (s := s) (r := r - 1) (by omega) (by omega); omega
  have p2 : 1 ≤ Rz (s - 1) (r - 1) := by have := Rz_gt (s := s - 1) (r := r - 1) (by omega) (by omega); omega
  have e2 := Rz_next (s := s - 1) (r := r - 1) (by omega) (by omega)
  rw [show s - 1 + 1 = s by omega, show r - 1 - 1 = r - 2 by omega] at e2
  have m1 := Rz_mono (s := s) (r := r - 2) (r' := r - 1) (by omega) (by omega) (by omega)
  have m2 := Rz_mono (s := s - 1) (r := r - 1) (r' := r) (by omega) (by omega) (by omega)
  have p0 := Rz_nonneg s (r - 2)
  -- the greatest of the lower ends
  refine ⟨max 1 (max (Rz s (r - 2)) (n - Rz (s - 1) r)), by omega, by omega, ?_⟩
  omega
/-- least and greatest best -/
def loz (n s : Int) : Int := max (max 1 (if rho n s > 1 then Rz s (rho n s - 2) else 0)) (n - Rz (s - 1) (rho n s))
def hiz (n s : Int) : Int := min (min (n - 1) (Rz s (rho n s - 1))) (n - Rz (s - 1) (rho n s - 1))
theorem best_iff {n s m : Int} (hn : 2 ≤ n) (hs : 2 ≤ s) (h1 : 1 ≤ m) (h2 : m < n) : Best n s m ↔ loz n s ≤ m ∧ m ≤ hiz n s := by
  have hr := rho_pos (n := n) (s := s) hn (by omega)
  unfold Best loz hiz
  by_cases e : rho n s > 1
  · rw [if_pos e]; omega
  · rw [if_neg e, show rho n s - 2 = -1 by omega, Rz_neg (by omega)]; omega
theorem loz_range {n s : Int} (hn : 2 ≤ n) (hs : 2 ≤ s) : 1 ≤ loz n s ∧ loz n s ≤ hiz n s ∧ hiz n s < n := by
  obtain ⟨m, h1, h2, h3⟩ := best_is hn hs
  obtain ⟨a, b⟩ := (best_iff hn hs h1 h2).mp h3
  refine ⟨?_, by omega, ?_⟩
  · unfold loz; omega
  · unfold hiz; omega
theorem tz_slot1 {n : Int} (hn : 1 ≤ n) : 2 * tz n 1 = n * (n - 1) := by
  have e : rho n 1 = n - 1 := rho_eq hn (Int.le_refl _) (by omega) (by rw [Rz_one (by omega)]; omega) (by
    by_cases h : n = 1
    · subst h; rw [show (1 : Int) - 1 - 1 = -1 by rfl, Rz_neg (by decide)]; decide
    · rw [Rz_one (by omega)]; omega)
  unfold tz
  rw [e, show (1 : Int) + 1 = 2 by rfl]
  have h2 : ∀ k : Nat, 2 * Rz 2 ((k : Int) - 1) = ((k : Int) + 1) * k := by
    intro k
    induction k with
    | zero => rw [show ((0 : Nat) : Int) - 1 = -1 by rfl, Rz_neg (by decide)]; rfl
    | succ k ih =>
      have e := Rz_next (s := 1) (r := (k : Int)) (by decide) (by omega)
      rw [show (1 : Int) + 1 = 2 by rfl, Rz_one (by omega)] at e
      rw [show ((k + 1 : Nat) : Int) - 1 = (k : Int) by omega, e]
      have e3 : (((k + 1 : Nat) : Int) + 1) * ((k + 1 : Nat) : Int) = ((k : Int) + 1) * k + 2 * ((k : Int) + 1) := by
        rw [show ((k + 1 : Nat) : Int) = (k : Int) + 1 by omega, Int.mul_add, Int.add_mul ((k : Int) + 1) 1 (k : Int)]
        omega
      rw [e3]
      omega
  obtain ⟨k, hk⟩ := Int.eq_ofNat_of_zero_le (show 0 ≤ n - 1 by omega)
  have e4 := h2 k
  rw [show n - 1 - 1 = (k : Int) - 1 by omega, hk]
  have e5 : n = (k : Int) + 1 := by omega
  rw [e5] at *
  rw [Int.mul_sub, e4, Int.mul_comm ((k : Int) + 1) (k : Int)]
  omega
end Bs

namespace Bs
theorem Rz_mono_l {s s' r : Int} (hs : 1 ≤ s) (h : s ≤ s') (hr : -1 ≤ r) : Rz s r ≤ Rz s' r := by
  by_cases h0 : r < 0
  · have e : r = -1 := by omega
    subst e
    rw [Rz_neg (by omega), Rz_neg (by omega)]
    exact Int.le_refl _
  · rw [Rz_of (by omega) (by omega), Rz_of (by omega) (by omega)]
    exact Int.ofNat_le.mpr (R_mono_l (by omega))
/-- one state more costs its rounds -/
theorem tz_succ {n s : Int} (hn : 1 ≤ n) (hs : 1 ≤ s) : tz (n + 1) s - tz n s = rho (n + 1) s := by
  have r0 := rho_pos (n := n + 1) (s := s) (by omega) hs
  have h1 := rho_reach (n := n + 1) hs
  have h2 := rho_least (n := n + 1) (s := s) (q := rho (n + 1) s - 1) (by omega) hs (by omega) (by omega)
  have e := tz_at (n := n) (s := s) (k := rho (n + 1) s) hn hs (by omega) (by omega) (by omega)
  rw [e, tz_lin]
  unfold lin
  rw [Int.mul_add, Int.mul_one]
  omega
/-- one slot more never costs -/
theorem tz_anti {n s : Int} (hn : 1 ≤ n) (hs : 1 ≤ s) : tz n (s + 1) ≤ tz n s := by
  have r0 := rho_nonneg n (s + 1)
  have a := tz_ge (n := n) (s := s) (k := rho n (s + 1)) hn hs r0
  have b := Rz_mono_l (s := s + 1) (s' := s + 1 + 1) (r := rho n (s + 1) - 1) (by omega) (by omega) (by omega)
  rw [tz_lin (s := s + 1)]
  unfold lin at *
  omega
theorem tz_low {n s : Int} (hn : 1 ≤ n) (hs : 1 ≤ s) : n - 1 ≤ tz n s := by
  have := tz_ge (n := n) (s := s) (k := 1) hn hs (by decide)
  unfold lin at this
  rw [show (1 : Int) - 1 = 0 by rfl, Rz_r0 (by omega)] at this
  omega
theorem tz_anti_le {n s : Int} (hn : 1 ≤ n) (hs : 1 ≤ s) : ∀ d : Nat, tz n (s + d) ≤ tz n s
  | 0 => by simp
  | d + 1 => by
    have := tz_anti_le hn hs d
    have := tz_anti (n := n) (s := s + d) hn (by omega)
    rw [show s + ((d + 1 : Nat) : Int) = s + d + 1 by omega]
    omega
theorem tz_anti2 {n s s' : Int} (hn : 1 ≤ n) (hs : 1 ≤ s) (h : s ≤ s') : tz n s' ≤ tz n s := by
  have := tz_anti_le (n := n) hn hs (s' - s).toNat
  rw [show s + ((s' - s).toNat : Int) = s' by omega] at this
  exact this
theorem tz_one_slot {n : Int} (hn : 1 ≤ n) : n * (n - 1) / 2 = tz n 1 := by
  have := tz_slot1 hn
  have e : n * (n - 1) = tz n 1 * 2 := by omega
  rw [e]
  exact Int.mul_ediv_cancel _ (by decide)
theorem tz_high {n s : Int} (hn : 1 ≤ n) (hs : 1 ≤ s) : tz n s ≤ n * (n - 1) / 2 := by
  rw [tz_one_slot hn]
  exact tz_anti2 hn (Int.le_refl _) hs
/-- t over k rounds is a line -/
theorem tz_line {n m s k : Int} (hm : 1 ≤ m) (hs : 1 ≤ s) (hk : 0 ≤ k) (h1 : Rz s (k - 1) ≤ m) (h2 : m ≤ n) (h3 : n ≤ Rz s k) : tz n s = tz m s + k * (n - m) := by
  rw [tz_at (n := n) (by omega) hs hk (by omega) h3, tz_at (n := m) hm hs hk h1 (by omega)]
  unfold lin
  rw [Int.mul_sub]
  omega
theorem hiz_best {n s : Int} (hn : 2 ≤ n) (hs : 2 ≤ s) : Best n s (hiz n s) := by
  obtain ⟨a, b, c⟩ := loz_range hn hs
  exact (best_iff hn hs (by omega) c).mpr ⟨b, Int.le_refl _⟩
theorem loz_best {n s : Int} (hn : 2 ≤ n) (hs : 2 ≤ s) : Best n s (loz n s) := by
  obtain ⟨a, b, c⟩ := loz_range hn hs
  exact (best_iff hn hs a (by omega)).mpr ⟨Int.le_refl _, b⟩
end Bs

namespace Bs
theorem rho_mono {n n' s : Int} (hn : 1 ≤ n) (h : n ≤ n') (hs : 1 ≤ s) : rho n s ≤ rho n' s := by
  have a := rho_reach (n := n') (s := s) hs
  have b := rho_nonneg n' s
  by_cases q : rho n' s < rho n s
  · have := rho_least (n := n) (s := s) (q := rho n' s) hn hs (by omega) q
    omega
  · omega
theorem fz_step {n s m : Int} (hs : 2 ≤ s) (h1 : 1 ≤ m) (h2 : m + 1 < n) : fz n s (m + 1) - fz n s m = 1 - rho (n - m) (s - 1) + rho (m + 1) s := by
  have a := tz_succ (n := n - m - 1) (s := s - 1) (by omega) (by omega)
  have b := tz_succ (n := m) (s := s) (by omega) (by omega)
  rw [show n - m - 1 + 1 = n - m by omega] at a
  unfold fz
  rw [show n - (m + 1) = n - m - 1 by omega]
  omega
theorem fz_slope {n s m k : Int} (hs : 2 ≤ s) (h1 : 1 ≤ m) (h : m ≤ k) (h2 : k + 1 < n) : fz n s (m + 1) - fz n s m ≤ fz n s (k + 1) - fz n s k := by
  rw [fz_step hs h1 (by omega), fz_step hs (by omega) h2]
  have := rho_mono (n := n - k) (n' := n - m) (s := s - 1) (by omega) (by omega) (by omega)
  have := rho_mono (n := m + 1) (n' := k + 1) (s := s) (by omega) (by omega) (by omega)
  omega
theorem fz_up {n s m : Int} (hs : 2 ≤ s) (h1 : 1 ≤ m) (hd : 1 ≤ fz n s (m + 1) - fz n s m) : ∀ d : Nat, m + d < n → fz n s m + d ≤ fz n s (m + d)
  | 0, _ => by simp
  | d + 1, h => by
    have a := fz_up hs h1 hd d (by omega)
    have b := fz_slope (n := n) (s := s) (m := m) (k := m + d) hs h1 (by omega) (by omega)
    rw [show m + ((d + 1 : Nat) : Int) = m + d + 1 by omega]
    omega
theorem fz_down {n s m : Int} (hs : 2 ≤ s) (hm : m + 1 < n) (hd : fz n s (m + 1) - fz n s m ≤ -1) : ∀ d : Nat, 1 ≤ m - d → fz n s m + d ≤ fz n s (m - d)
  | 0, _ => by simp
  | d + 1, h => by
    have a := fz_down hs hm hd d (by omega)
    have b := fz_slope (n := n) (s := s) (m := m - d - 1) (k := m) hs (by omega) (by omega) (by omega)
    rw [show m - ((d + 1 : Nat) : Int) = m - d - 1 by omega]
    rw [show m - (d : Int) - 1 + 1 = m - d by omega] at b
    omega
/-- towards the stretch it is no greater -/
theorem fz_left {n s m : Int} (hn : 2 ≤ n) (hs : 2 ≤ s) (h1 : 1 ≤ m) (h : m < loz n s) : fz n s (m + 1) ≤ fz n s m := by
  obtain ⟨a, b, c⟩ := loz_range hn hs
  by_cases q : fz n s (m + 1) ≤ fz n s m
  · exact q
  · have u := fz_up (n := n) (s := s) (m := m) hs h1 (by omega) (loz n s - m).toNat (by omega)
    rw [show m + ((loz n s - m).toNat : Int) = loz n s by omega, tz_best hs a (by omega) (loz_best hn hs)] at u
    have := tz_le_fz (n := n) (s := s) (m := m) hs h1 (by omega)
    omega
theorem fz_right {n s m : Int} (hn : 2 ≤ n) (hs : 2 ≤ s) (h1 : m < n) (h : hiz n s < m) : fz n s (m - 1) ≤ fz n s m := by
  obtain ⟨a, b, c⟩ := loz_range hn hs
  by_cases q : fz n s (m - 1) ≤ fz n s m
  · exact q
  · have u := fz_down (n := n) (s := s) (m := m - 1) hs (by omega) (by rw [show m - 1 + 1 = m by omega]; omega) (m - 1 - hiz n s).toNat (by omega)
    rw [show m - 1 - ((m - 1 - hiz n s).toNat : Int) = hiz n s by omega, tz_best hs (by omega) (by omega) (hiz_best hn hs)] at u
    have := tz_le_fz (n := n) (s := s) (m := m) hs (by omega) h1
    omega
/-- what the law asks of a split -/
theorem loss_zero {n s m : Int} (hn : 2 ≤ n) (hs : 2 ≤ s) (h1 : 1 ≤ m) (h2 : m < n) : fz n s m - tz n s = 0 ↔ loz n s ≤ m ∧ m ≤ hiz n s := by
  rw [← best_iff hn hs h1 h2]
  by_cases b : Best n s m
  · have := tz_best hs h1 h2 b
    exact ⟨fun _ => b, fun _ => by omega⟩
  · have := tz_lt_fz hs h1 h2 b
    exact ⟨fun _ => by omega, fun k => absurd k b⟩
theorem tz_cap {n s : Int} (hn : 1 ≤ n) (h2 : n ≤ 10 ^ 30) (hs : 1 ≤ s) : 0 ≤ tz n s ∧ tz n s ≤ 10 ^ 60 := by
  have a := tz_nonneg (n := n) (s := s) hn hs
  have b := tz_high (n := n) (s := s) hn hs
  have c : n * n ≤ 10 ^ 60 := calc
    n * n ≤ 10 ^ 30 * 10 ^ 30 := Int.mul_le_mul h2 h2 (by omega) (by decide)
    _ = 10 ^ 60 := by decide
  have e : n * (n - 1) = n * n - n := by rw [Int.mul_sub, Int.mul_one]
  omega
theorem fz_cap {n s m : Int} (hs : 2 ≤ s) (h1 : 1 ≤ m) (h2 : m < n) (h3 : n ≤ 10 ^ 30) : 0 ≤ fz n s m - tz n s ∧ fz n s m - tz n s ≤ 10 ^ 62 := by
  have a := tz_cap (n := n) (s := s) (by omega) h3 (by omega)
  have b := tz_cap (n := m) (s := s) (by omega) (by omega) (by omega)
  have c := tz_cap (n := n - m) (s := s - 1) (by omega) (by omega) (by omega)
  have d := tz_le_fz (n := n) (s := s) (m := m) hs h1 h2
  unfold fz at *
  omega
def tt (n s : Nat) : Int := if n = 0 then 0 else tz n s
theorem tt_one (s : Nat) (h : 1 ≤ s) : tt 1 s = 0 := by unfold tt; rw [if_neg (by decide)]; exact tz_one (by omega)
theorem tt_slot1 (n : Nat) : (n : Int) * ((n : Int) - 1) / 2 = tt n 1 := by
  unfold tt
  by_cases h : n = 0
  · subst h; rfl
  · rw [if_neg h]
    have := tz_slot1 (n := (n : Int)) (by omega)
    have e : (n : Int) * ((n : Int) - 1) = tz n 1 * 2 := by rw [← this, Int.mul_comm]
    rw [e]
    exact Int.mul_ediv_cancel _ (by decide)
/-- the splits of n states, s slots: what they cost -/
def splitV (n s : Nat) : List Int := (List.range (n - 1)).map fun (i : Nat) => 1 + (i : Int) + tt (n - (i + 1)) (s - 1) + tt (i + 1) s
theorem splitV_min {n s : Nat} (hn : 2 ≤ n) (hs : 2 ≤ s) {m : Int} (h1 : m ∈ splitV n s) (h2 : ∀ y, y ∈ splitV n s → m ≤ y) : m = tt n s := by
  have e : tt n s = tz n s := by unfold tt; rw [if_neg (by omega)]
  have cost : ∀ i : Nat, i < n - 1 → 1 + (i : Int) + tt (n - (i + 1)) (s - 1) + tt (i + 1) s = fz n s (i + 1 : Nat) := fun i hi => by
    unfold fz tt
    rw [if_neg (by omega), if_neg (by omega), show ((n - (i + 1) : Nat) : Int) = (n : Int) - ((i + 1 : Nat) : Int) by omega, show ((s - 1 : Nat) : Int) = (s : Int) - 1 by omega]
    omega
  rw [e]
  refine Int.le_antisymm ?_ ?_
  · obtain ⟨k, k1, k2, kb⟩ := best_is (n := (n : Int)) (s := (s : Int)) (by omega) (by omega)
    have hk : k = ((k.toNat - 1 + 1 : Nat) : Int) := by omega
    have := h2 (fz n s k) (by
      unfold splitV
      refine List.mem_map.mpr ⟨k.toNat - 1, List.mem_range.mpr (by omega), ?_⟩
      rw [cost _ (by omega), ← hk])
    rw [tz_best (by omega) k1 k2 kb] at this
    exact this
  · unfold splitV at h1
    obtain ⟨i, hi, rfl⟩ := List.mem_map.mp h1
    have hi2 := List.mem_range.mp hi
    rw [cost i hi2]
    exact tz_le_fz (by omega) (by omega) (by omega)
def Rq : Nat → Nat → Nat
  | 0, _ => 1
  | s + 1, r => Rq s r * (s + r + 1) / (s + 1)
theorem R_q : ∀ s r : Nat, R s r = Rq s r
  | 0, r => R_0 r
  | s + 1, r => by
    show R (s + 1) r = Rq s r * (s + r + 1) / (s + 1)
    rw [← R_q s r, ← R_up s r]
    exact (Nat.mul_div_cancel _ (by omega)).symm
theorem Rz_q {s r : Int} (hs : 0 ≤ s) (hr : 0 ≤ r) : Rz s r = (Rq s.toNat r.toNat : Nat) := by rw [Rz_of hs hr, R_q]
theorem first_lost : 0 < fz (10 ^ 30) 100 1 - tz (10 ^ 30) 100 := by
  have e : rho (10 ^ 30) 100 = 31 := rho_eq (by decide) (by decide) (by decide) (by rw [Rz_q (by decide) (by decide)]; decide +kernel) (by rw [Rz_q (by decide) (by decide)]; decide +kernel)
  have b : ¬ Best (10 ^ 30) 100 1 := by
    unfold Best
    rw [e]
    rintro ⟨_, _, _, h⟩
    rw [Rz_q (by decide) (by decide)] at h
    revert h
    decide +kernel
  have := tz_lt_fz (n := 10 ^ 30) (s := 100) (m := 1) (by decide) (by decide) (by decide) b
  omega
end Bs

namespace Bs
/-! ### the latest plan: how many operations, which operation -/
theorem nat_succ {r : Int} (h : 1 ≤ r) : ∃ k : Nat, r = (k : Int) + 1 := ⟨(r - 1).toNat, by omega⟩
theorem Rz_lt {s r : Int} (hs : 1 ≤ s) (hr : 0 ≤ r) : Rz s (r - 1) < Rz s r := by
  by_cases h : r = 0
  · subst h
    rw [show (0 : Int) - 1 = -1 by rfl, Rz_neg (by omega), Rz_r0 (by omega)]
    decide
  · have e := Rz_next (s := s - 1) (r := r) (by omega) (by omega)
    rw [show s - 1 + 1 = s by omega] at e
    by_cases h1 : s = 1
    · subst h1
      rw [Rz_one (by omega), Rz_one (by omega)]
      omega
    · have := Rz_gt (s := s - 1) (r := r) (by omega) hr
      omega
theorem rho_full {s r : Int} (hs : 1 ≤ s) (hr : 0 ≤ r) : rho (Rz s r) s = r :=
  rho_eq (by have := Rz_gt hs hr; omega) hs hr (Int.le_refl _) (Rz_lt hs hr)
theorem rho_slot1 {n : Int} (hn : 1 ≤ n) : rho n 1 = n - 1 :=
  rho_eq hn (by decide) (by omega) (by rw [Rz_one (by omega)]; omega) (by
    by_cases h : n = 1
    · subst h; decide
    · rw [Rz_one (by omega)]; omega)
theorem full_one {s : Int} (hs : 1 ≤ s) : (1 : Int) = Rz s (rho 1 s) := by rw [rho_one hs, Rz_r0 (by omega)]
theorem full_slot1 {n : Int} (hn : 1 ≤ n) : n = Rz 1 (rho n 1) := by rw [rho_slot1 hn, Rz_one (by omega)]; omega
/-- one round less, one slot less, by division -/
theorem term_less {s r : Int} (hs : 1 ≤ s) (hr : 0 ≤ r) : Rz s r * r / (s + r) = Rz s (r - 1) := by
  by_cases h : r = 0
  · subst h
    rw [show (0 : Int) - 1 = -1 by rfl, Rz_neg (by omega), Int.mul_zero, Int.zero_ediv]
  · obtain ⟨k, rfl⟩ := nat_succ (show 1 ≤ r by omega)
    obtain ⟨j, rfl⟩ := Int.eq_ofNat_of_zero_le (show 0 ≤ s by omega)
    rw [show (k : Int) + 1 - 1 = (k : Int) by omega, show (k : Int) + 1 = ((k + 1 : Nat) : Int) by omega, Rz_nat, Rz_nat]
    have e := R_right j k
    have e2 : ((R j (k + 1) : Nat) : Int) * ((k + 1 : Nat) : Int) = ((R j k : Nat) : Int) * ((j : Int) + ((k + 1 : Nat) : Int)) := by
      have e3 : ((R j (k + 1) * (k + 1) : Nat) : Int) = ((R j k * (j + k + 1) : Nat) : Int) := by rw [e]
      rw [Int.natCast_mul, Int.natCast_mul] at e3
      rw [e3, show (j : Int) + ((k + 1 : Nat) : Int) = ((j + k + 1 : Nat) : Int) by omega]
    rw [e2]
    exact Int.mul_ediv_cancel _ (by omega)
theorem term_slots {s r : Int} (hs : 1 ≤ s) (hr : 0 ≤ r) : Rz s r * s / (s + r) = Rz (s - 1) r := by
  obtain ⟨j, rfl⟩ := nat_succ hs
  obtain ⟨k, rfl⟩ := Int.eq_ofNat_of_zero_le hr
  rw [show (j : Int) + 1 - 1 = (j : Int) by omega, show (j : Int) + 1 = ((j + 1 : Nat) : Int) by omega, Rz_nat, Rz_nat]
  have e := R_up j k
  have e2 : ((R (j + 1) k : Nat) : Int) * ((j + 1 : Nat) : Int) = ((R j k : Nat) : Int) * (((j + 1 : Nat) : Int) + (k : Int)) := by
    have e3 : ((R (j + 1) k * (j + 1) : Nat) : Int) = ((R j k * (j + k + 1) : Nat) : Int) := by rw [e]
    rw [Int.natCast_mul, Int.natCast_mul] at e3
    rw [e3, show ((j + 1 : Nat) : Int) + (k : Int) = ((j + k + 1 : Nat) : Int) by omega]
  rw [e2]
  exact Int.mul_ediv_cancel _ (by omega)
/-- operations of the plan of n states with s slots -/
def opsN (n s : Int) : Int :=
  if h : 2 ≤ n ∧ 2 ≤ s then (if n - hiz n s > 1 then 4 else 2) + opsN (n - hiz n s) (s - 1) + opsN (hiz n s) s else 3 * n - 2
termination_by n.toNat
decreasing_by all_goals (have := loz_range h.1 h.2; omega)
theorem opsN_row {n s : Int} (h : n < 2 ∨ s < 2) : opsN n s = 3 * n - 2 := by
  rw [opsN, dif_neg (by omega)]
theorem opsN_two {n s : Int} (hn : 2 ≤ n) (hs : 2 ≤ s) : opsN n s = (if n - hiz n s > 1 then 4 else 2) + opsN (n - hiz n s) (s - 1) + opsN (hiz n s) s := by
  rw [opsN, dif_pos ⟨hn, hs⟩]
/-- a plan's parts, for proofs about all plans -/
theorem plan_ind {M : Int → Int → Prop} (row : ∀ n s, 1 ≤ n → 1 ≤ s → (n < 2 ∨ s < 2) → M n s)
    (two : ∀ n s, 2 ≤ n → 2 ≤ s → M (n - hiz n s) (s - 1) → M (hiz n s) s → M n s) : ∀ n s : Int, 1 ≤ n → 1 ≤ s → M n s := by
  have main : ∀ k : Nat, ∀ n s : Int, n.toNat ≤ k → 1 ≤ n → 1 ≤ s → M n s := by
    intro k
    induction k with
    | zero => intro n s h hn hs; omega
    | succ k ih =>
      intro n s h hn hs
      by_cases q : n < 2 ∨ s < 2
      · exact row n s hn hs q
      · obtain ⟨a, b, c⟩ := loz_range (n := n) (s := s) (by omega) (by omega)
        exact two n s (by omega) (by omega) (ih _ _ (by omega) (by omega) (by omega)) (ih _ _ (by omega) (by omega) (by omega))
  exact fun n s hn hs => main n.toNat n s (Nat.le_refl _) hn hs
theorem opsN_ge : ∀ n s : Int, 1 ≤ n → 1 ≤ s → n ≤ opsN n s ∧ opsN n s ≤ 5 * n - 4 := by
  refine plan_ind (fun n s hn hs h => by rw [opsN_row h]; omega) (fun n s hn hs a b => ?_)
  rw [opsN_two hn hs]
  obtain ⟨r1, r2, r3⟩ := loz_range hn hs
  split <;> omega
/-- the split where the rounds reach just so many -/
theorem hiz_full {s r : Int} (hs : 2 ≤ s) (hr : 1 ≤ r) : hiz (Rz s r) s = Rz s (r - 1) := by
  unfold hiz
  rw [rho_full (by omega) (by omega)]
  have e := Rz_next (s := s - 1) (r := r) (by omega) (by omega)
  rw [show s - 1 + 1 = s by omega] at e
  have g := Rz_gt (s := s - 1) (r := r) (by omega) (by omega)
  have m := Rz_mono (s := s - 1) (r := r - 1) (r' := r) (by omega) (by omega) (by omega)
  omega
theorem opsN_full : ∀ (j k : Nat), opsN (Rz (j + 1 : Nat) k) (j + 1 : Nat) = 3 * Rz (j + 1 : Nat) k + 2 * Rz j k - 4
  | 0, k => by
    rw [opsN_row (.inr (by omega))]
    show 3 * Rz 1 k - 2 = 3 * Rz 1 k + 2 * Rz 0 k - 4
    rw [Rz_zero]
    omega
  | j + 1, 0 => by
    rw [show ((0 : Nat) : Int) = 0 by rfl, Rz_r0 (by omega), Rz_r0 (by omega), opsN_row (.inl (by omega))]
    rfl
  | j + 1, k + 1 => by
    have a := opsN_full j (k + 1)
    have b := opsN_full (j + 1) k
    have e := Rz_next (s := ((j + 1 : Nat) : Int)) (r := ((k + 1 : Nat) : Int)) (by omega) (by omega)
    have e2 := Rz_next (s := (j : Int)) (r := ((k + 1 : Nat) : Int)) (by omega) (by omega)
    have g := Rz_gt (s := ((j + 1 : Nat) : Int)) (r := ((k + 1 : Nat) : Int)) (by omega) (by omega)
    have g2 := Rz_gt (s := ((j + 1 + 1 : Nat) : Int)) (r := (k : Int)) (by omega) (by omega)
    rw [show ((j + 1 : Nat) : Int) + 1 = ((j + 1 + 1 : Nat) : Int) by omega, show ((k + 1 : Nat) : Int) - 1 = (k : Int) by omega] at e
    rw [show (j : Int) + 1 = ((j + 1 : Nat) : Int) by omega, show ((k + 1 : Nat) : Int) - 1 = (k : Int) by omega] at e2
    have hz := hiz_full (s := ((j + 1 + 1 : Nat) : Int)) (r := ((k + 1 : Nat) : Int)) (by omega) (by omega)
    rw [show ((k + 1 : Nat) : Int) - 1 = (k : Int) by omega] at hz
    rw [opsN_two (by omega) (by omega), hz, show Rz ((j + 1 + 1 : Nat) : Int) ((k + 1 : Nat) : Int) - Rz ((j + 1 + 1 : Nat) : Int) (k : Int) = Rz ((j + 1 : Nat) : Int) ((k + 1 : Nat) : Int) by omega,
      if_pos (by omega), show ((j + 1 + 1 : Nat) : Int) - 1 = ((j + 1 : Nat) : Int) by omega, a, b]
    omega
/-- the count of a part that its rounds reach just -/
theorem opsN_closed {s r : Int} (hs : 1 ≤ s) (hr : 0 ≤ r) : opsN (Rz s r) s = 3 * Rz s r + 2 * Rz (s - 1) r - 4 := by
  obtain ⟨j, rfl⟩ := nat_succ hs
  obtain ⟨k, rfl⟩ := Int.eq_ofNat_of_zero_le hr
  have := opsN_full j k
  rw [show (j : Int) + 1 - 1 = (j : Int) by omega, show (j : Int) + 1 = ((j + 1 : Nat) : Int) by omega]
  exact this
/-! parts of a plan: rounds and reaches -/
/-- its rounds reach just so many -/
def Full (n s : Int) : Prop := n = Rz s (rho n s)
instance {n s : Int} : Decidable (Full n s) := by unfold Full; infer_instance
theorem full_of {s r : Int} (hs : 1 ≤ s) (hr : 0 ≤ r) {n : Int} (h : n = Rz s r) : Full n s := by
  unfold Full
  rw [h, rho_full hs hr]
theorem rest_rho {n s : Int} (hn : 2 ≤ n) (hs : 2 ≤ s) : rho (n - hiz n s) (s - 1) = if n - hiz n s = Rz (s - 1) (rho n s - 1) then rho n s - 1 else rho n s := by
  have hr := rho_pos (n := n) (s := s) hn (by omega)
  obtain ⟨a, b, c⟩ := loz_range hn hs
  obtain ⟨b1, b2, b3, b4⟩ := hiz_best hn hs
  split
  · rename_i h
    rw [h, rho_full (by omega) (by omega)]
  · exact rho_eq (by omega) (by omega) (by omega) b4 (by omega)
theorem ahead_rho {n s : Int} (hn : 2 ≤ n) (hs : 2 ≤ s) : rho (hiz n s) s = if hiz n s = Rz s (rho n s - 2) then rho n s - 2 else rho n s - 1 := by
  have hr := rho_pos (n := n) (s := s) hn (by omega)
  obtain ⟨a, b, c⟩ := loz_range hn hs
  obtain ⟨b1, b2, b3, b4⟩ := hiz_best hn hs
  split
  · rename_i h
    have h2 : 0 ≤ rho n s - 2 := by
      by_cases q : rho n s = 1
      · rw [q, show (1 : Int) - 2 = -1 by rfl, Rz_neg (by omega)] at h
        omega
      · omega
    rw [h, rho_full (by omega) h2]
  · exact rho_eq (by omega) (by omega) (by omega) b2 (by rw [show rho n s - 1 - 1 = rho n s - 2 by omega]; omega)
/-- one of both parts is told at once -/
theorem one_full {n s : Int} (hn : 2 ≤ n) (hs : 2 ≤ s) : Full (n - hiz n s) (s - 1) ∨ Full (hiz n s) s := by
  have hr := rho_pos (n := n) (s := s) hn (by omega)
  have h : hiz n s = n - 1 ∨ hiz n s = Rz s (rho n s - 1) ∨ n - hiz n s = Rz (s - 1) (rho n s - 1) := by unfold hiz; omega
  rcases h with h | h | h
  · left
    rw [show n - hiz n s = 1 by omega]
    exact full_one (by omega)
  · exact .inr (full_of (by omega) (by omega) h)
  · exact .inl (full_of (by omega) (by omega) h)
theorem full_row {n s : Int} (hn : 1 ≤ n) (hs : 1 ≤ s) (h : n < 2 ∨ s < 2) : Full n s := by
  rcases h with h | h
  · rw [show n = 1 by omega]; exact full_one hs
  · rw [show s = 1 by omega]; exact full_slot1 hn
/-- behind and ahead, as the code tells them: (states, slots, rounds, reached) -/
def restT (n s : Int) : List Int := if n - hiz n s = Rz (s - 1) (rho n s - 1) then [Rz (s - 1) (rho n s - 1), s - 1, rho n s - 1, Rz (s - 1) (rho n s - 1)] else [n - hiz n s, s - 1, rho n s, Rz (s - 1) (rho n s)]
def aheadT (n s : Int) : List Int := if hiz n s = Rz s (rho n s - 2) then [Rz s (rho n s - 2), s, rho n s - 2, Rz s (rho n s - 2)] else [hiz n s, s, rho n s - 1, Rz s (rho n s - 1)]
def partT (n s : Int) : List Int := [n, s, rho n s, Rz s (rho n s)]
theorem restT_eq {n s : Int} (hn : 2 ≤ n) (hs : 2 ≤ s) : restT n s = partT (n - hiz n s) (s - 1) := by
  unfold restT partT
  rw [rest_rho hn hs]
  split
  · rename_i h
    rw [← h]
  · rfl
theorem aheadT_eq {n s : Int} (hn : 2 ≤ n) (hs : 2 ≤ s) : aheadT n s = partT (hiz n s) s := by
  unfold aheadT partT
  rw [ahead_rho hn hs]
  split
  · rename_i h
    rw [← h]
  · rfl
/-! ### operations, by number -/
inductive Op where
  | go (k : Int) | keep | take (m : Int) | free (m : Int) | back
/-- one slot more is taken if more than one state is behind the split -/
def kp (n s : Int) : Int := if n - hiz n s > 1 then 1 else 0
def rowOp (b n i : Int) : Op := if i / 3 = n - 1 ∨ i % 3 = 1 then .back else if i % 3 = 0 then .go (n - 1 - i / 3) else .take b
def opAt (n s b i : Int) : Op :=
  if h : 2 ≤ n ∧ 2 ≤ s then
    if i = 0 then .go (hiz n s)
    else if i = 1 ∧ kp n s = 1 then .keep
    else if i - (1 + kp n s) < opsN (n - hiz n s) (s - 1) then opAt (n - hiz n s) (s - 1) (b + hiz n s) (i - (1 + kp n s))
    else if i - (1 + kp n s) = opsN (n - hiz n s) (s - 1) ∧ kp n s = 1 then .free (b + hiz n s)
    else if i - (1 + kp n s) = opsN (n - hiz n s) (s - 1) + kp n s then .take b
    else opAt (hiz n s) s b (i - (1 + kp n s) - opsN (n - hiz n s) (s - 1) - kp n s - 1)
  else rowOp b n i
termination_by n.toNat
decreasing_by all_goals (have := loz_range h.1 h.2; omega)
theorem opAt_row {n s b i : Int} (h : n < 2 ∨ s < 2) : opAt n s b i = rowOp b n i := by
  rw [opAt, dif_neg (by omega)]
theorem opAt_two {n s b i : Int} (hn : 2 ≤ n) (hs : 2 ≤ s) : opAt n s b i = if i = 0 then .go (hiz n s)
    else if i = 1 ∧ kp n s = 1 then .keep
    else if i - (1 + kp n s) < opsN (n - hiz n s) (s - 1) then opAt (n - hiz n s) (s - 1) (b + hiz n s) (i - (1 + kp n s))
    else if i - (1 + kp n s) = opsN (n - hiz n s) (s - 1) ∧ kp n s = 1 then .free (b + hiz n s)
    else if i - (1 + kp n s) = opsN (n - hiz n s) (s - 1) + kp n s then .take b
    else opAt (hiz n s) s b (i - (1 + kp n s) - opsN (n - hiz n s) (s - 1) - kp n s - 1) := by
  rw [opAt, dif_pos ⟨hn, hs⟩]
theorem opsN_kp {n s : Int} (hn : 2 ≤ n) (hs : 2 ≤ s) : opsN n s = 2 + 2 * kp n s + opsN (n - hiz n s) (s - 1) + opsN (hiz n s) s := by
  rw [opsN_two hn hs]
  unfold kp
  split <;> omega
/-- states moved on -/
def Op.moved (d : Int) : Op → Op
  | .take m => .take (m + d)
  | .free m => .free (m + d)
  | o => o
theorem opAt_moved : ∀ n s : Int, 1 ≤ n → 1 ≤ s → ∀ b d i, opAt n s (b + d) i = (opAt n s b i).moved d := by
  refine plan_ind (fun n s hn hs h b d i => ?_) (fun n s hn hs ih1 ih2 b d i => ?_)
  · rw [opAt_row h, opAt_row h]
    unfold rowOp
    split
    · rfl
    · split <;> rfl
  · rw [opAt_two hn hs, opAt_two hn hs, show b + d + hiz n s = b + hiz n s + d by omega, ih1, ih2]
    split
    · rfl
    · split
      · rfl
      · split
        · rfl
        · split
          · rfl
          · split <;> rfl
/-! ### backs, goes, most -/
theorem kp_01 (n s : Int) : kp n s = 0 ∨ kp n s = 1 := by unfold kp; split <;> simp
def backAt (n s x : Int) : Int :=
  if h : 2 ≤ n ∧ 2 ≤ s then
    if hiz n s ≤ x then 1 + kp n s + backAt (n - hiz n s) (s - 1) (x - hiz n s)
    else 2 + 2 * kp n s + opsN (n - hiz n s) (s - 1) + backAt (hiz n s) s x
  else 3 * (n - 1 - x) + (if n - 1 - x < n - 1 then 1 else 0)
termination_by n.toNat
decreasing_by all_goals (have := loz_range h.1 h.2; omega)
theorem backAt_row {n s x : Int} (h : n < 2 ∨ s < 2) : backAt n s x = 3 * (n - 1 - x) + (if n - 1 - x < n - 1 then 1 else 0) := by
  rw [backAt, dif_neg (by omega)]
theorem backAt_two {n s x : Int} (hn : 2 ≤ n) (hs : 2 ≤ s) : backAt n s x = if hiz n s ≤ x then 1 + kp n s + backAt (n - hiz n s) (s - 1) (x - hiz n s)
    else 2 + 2 * kp n s + opsN (n - hiz n s) (s - 1) + backAt (hiz n s) s x := by
  rw [backAt, dif_pos ⟨hn, hs⟩]
def goesL (n s x c : Int) : List (Int × Int × Int) :=
  if h : 2 ≤ n ∧ 2 ≤ s then
    if hiz n s ≤ x then goesL (n - hiz n s) (s - 1) (x - hiz n s) (c + (1 + kp n s))
    else (c, 1, 0) :: (if x = hiz n s - 1 then [] else goesL (hiz n s) s x (c + (2 + 2 * kp n s + opsN (n - hiz n s) (s - 1))))
  else [(c, n - 1 - x, 3)]
termination_by n.toNat
decreasing_by all_goals (have := loz_range h.1 h.2; omega)
theorem goesL_row {n s x c : Int} (h : n < 2 ∨ s < 2) : goesL n s x c = [(c, n - 1 - x, 3)] := by
  rw [goesL, dif_neg (by omega)]
theorem goesL_two {n s x c : Int} (hn : 2 ≤ n) (hs : 2 ≤ s) : goesL n s x c = if hiz n s ≤ x then goesL (n - hiz n s) (s - 1) (x - hiz n s) (c + (1 + kp n s))
    else (c, 1, 0) :: (if x = hiz n s - 1 then [] else goesL (hiz n s) s x (c + (2 + 2 * kp n s + opsN (n - hiz n s) (s - 1)))) := by
  rw [goesL, dif_pos ⟨hn, hs⟩]
def timesD (n s x : Int) : Int :=
  if h : 2 ≤ n ∧ 2 ≤ s then
    if hiz n s ≤ x then timesD (n - hiz n s) (s - 1) (x - hiz n s)
    else 1 + (if x = hiz n s - 1 then 0 else timesD (hiz n s) s x)
  else n - 1 - x
termination_by n.toNat
decreasing_by all_goals (have := loz_range h.1 h.2; omega)
theorem timesD_row {n s x : Int} (h : n < 2 ∨ s < 2) : timesD n s x = n - 1 - x := by
  rw [timesD, dif_neg (by omega)]
theorem timesD_two {n s x : Int} (hn : 2 ≤ n) (hs : 2 ≤ s) : timesD n s x = if hiz n s ≤ x then timesD (n - hiz n s) (s - 1) (x - hiz n s)
    else 1 + (if x = hiz n s - 1 then 0 else timesD (hiz n s) s x) := by
  rw [timesD, dif_pos ⟨hn, hs⟩]
theorem goes_sum : ∀ n s : Int, 1 ≤ n → 1 ≤ s → ∀ x c, ((goesL n s x c).map fun g => g.2.1).sum = timesD n s x := by
  refine plan_ind (fun n s hn hs h x c => ?_) (fun n s hn hs ih1 ih2 x c => ?_)
  · rw [goesL_row h, timesD_row h]; simp
  · rw [goesL_two hn hs, timesD_two hn hs]
    split
    · exact ih1 _ _
    · rw [List.map_cons, List.sum_cons]
      congr 1
      split
      · rfl
      · exact ih2 _ _
def pickG : List (Int × Int × Int) → Int → Option Int
  | [], _ => none
  | g :: r, k => if k < g.2.1 then some (g.1 + k * g.2.2) else pickG r (k - g.2.1)
def goAt (n s x k : Int) : Option Int := pickG (goesL n s x 0) k
theorem pick_shift : ∀ n s : Int, 1 ≤ n → 1 ≤ s → ∀ x c d k, pickG (goesL n s x (c + d)) k = (pickG (goesL n s x c) k).map (· + d) := by
  refine plan_ind (fun n s hn hs h x c d k => ?_) (fun n s hn hs ih1 ih2 x c d k => ?_)
  · rw [goesL_row h, goesL_row h]
    unfold pickG
    split
    · simp only [Option.map_some]; congr 1; omega
    · rfl
  · rw [goesL_two hn hs, goesL_two hn hs]
    split
    · rw [show c + d + (1 + kp n s) = c + (1 + kp n s) + d by omega]
      exact ih1 _ _ _ _
    · unfold pickG
      split
      · simp only [Option.map_some]; congr 1; omega
      · split
        · rfl
        · rw [show c + d + (2 + 2 * kp n s + opsN (n - hiz n s) (s - 1)) = c + (2 + 2 * kp n s + opsN (n - hiz n s) (s - 1)) + d by omega]
          exact ih2 _ _ _ _
theorem pick_some : ∀ (l : List (Int × Int × Int)) (k : Int), 0 ≤ k → k < (l.map fun g => g.2.1).sum → ∃ v, pickG l k = some v
  | [], k, h0, h => by simp at h; omega
  | g :: r, k, h0, h => by
    unfold pickG
    split
    · exact ⟨_, rfl⟩
    · rw [List.map_cons, List.sum_cons] at h
      exact pick_some r _ (by omega) (by omega)
/-- the part with the most rounds -/
theorem rounds_max {n s : Int} (hn : 2 ≤ n) (hs : 2 ≤ s) : (rho (hiz n s) s = rho n s - 1 ∨ rho (n - hiz n s) (s - 1) = rho n s) ∧ rho (hiz n s) s ≤ rho n s - 1 ∧ rho (n - hiz n s) (s - 1) ≤ rho n s := by
  have a := ahead_rho hn hs
  have b := rest_rho hn hs
  have hr := rho_pos (n := n) (s := s) hn (by omega)
  have l := rho_least (n := n) (s := s) (q := rho n s - 1) (by omega) (by omega) (by omega) (by omega)
  have e := Rz_next (s := s - 1) (r := rho n s - 1) (by omega) (by omega)
  rw [show s - 1 + 1 = s by omega, show rho n s - 1 - 1 = rho n s - 2 by omega] at e
  by_cases h1 : hiz n s = Rz s (rho n s - 2)
  · rw [if_pos h1] at a
    by_cases h2 : n - hiz n s = Rz (s - 1) (rho n s - 1)
    · omega
    · rw [if_neg h2] at b
      omega
  · rw [if_neg h1] at a
    refine ⟨.inl a, by omega, ?_⟩
    rw [b]
    split <;> omega
def mostAt (n s b : Int) : Int :=
  if h : 2 ≤ n ∧ 2 ≤ s then
    if hiz n s > 1 ∧ rho (hiz n s) s = rho n s - 1 then mostAt (hiz n s) s b
    else if rho n s = 1 ∧ hiz n s = 1 then b
    else mostAt (n - hiz n s) (s - 1) (b + hiz n s)
  else b
termination_by n.toNat
decreasing_by all_goals (have := loz_range h.1 h.2; omega)
theorem mostAt_row {n s b : Int} (h : n < 2 ∨ s < 2) : mostAt n s b = b := by
  rw [mostAt, dif_neg (by omega)]
theorem mostAt_two {n s b : Int} (hn : 2 ≤ n) (hs : 2 ≤ s) : mostAt n s b = if hiz n s > 1 ∧ rho (hiz n s) s = rho n s - 1 then mostAt (hiz n s) s b
    else if rho n s = 1 ∧ hiz n s = 1 then b else mostAt (n - hiz n s) (s - 1) (b + hiz n s) := by
  rw [mostAt, dif_pos ⟨hn, hs⟩]
theorem most_rest {n s : Int} (hn : 2 ≤ n) (hs : 2 ≤ s) (h1 : ¬ (hiz n s > 1 ∧ rho (hiz n s) s = rho n s - 1)) (h2 : ¬ (rho n s = 1 ∧ hiz n s = 1)) : rho (n - hiz n s) (s - 1) = rho n s := by
  obtain ⟨a, b, c⟩ := rounds_max hn hs
  obtain ⟨l1, l2, l3⟩ := loz_range hn hs
  rcases a with a | a
  · have e : hiz n s = 1 := by omega
    have := rho_one (s := s) (by omega)
    rw [e] at a
    exact absurd ⟨by omega, e⟩ h2
  · exact a
theorem goes_in : ∀ n s : Int, 1 ≤ n → 1 ≤ s → ∀ x c, x ≤ n - 1 → ∀ g ∈ goesL n s x c, 0 ≤ g.2.1 ∧ 0 ≤ g.2.2 ∧ g.2.2 ≤ 3 := by
  refine plan_ind (fun n s hn hs h x c hx g hg => ?_) (fun n s hn hs ih1 ih2 x c hx g hg => ?_)
  · rw [goesL_row h] at hg
    rw [List.mem_singleton.mp hg]
    exact ⟨by show 0 ≤ n - 1 - x; omega, show (0 : Int) ≤ 3 by decide, show (3 : Int) ≤ 3 by decide⟩
  · rw [goesL_two hn hs] at hg
    split at hg
    · exact ih1 _ _ (by omega) g hg
    · rename_i h1
      rcases List.mem_cons.mp hg with h | h
      · rw [h]; exact ⟨show (0 : Int) ≤ 1 by decide, show (0 : Int) ≤ 0 by decide, show (0 : Int) ≤ 3 by decide⟩
      · split at h
        · cases h
        · exact ih2 _ _ (by omega) g h
theorem goes_len : ∀ n s : Int, 1 ≤ n → 1 ≤ s → ∀ x c, ((goesL n s x c).length : Int) ≤ rho n s + 1 := by
  refine plan_ind (fun n s hn hs h x c => ?_) (fun n s hn hs ih1 ih2 x c => ?_)
  · rw [goesL_row h]
    have := rho_nonneg n s
    show (1 : Int) ≤ _
    omega
  · rw [goesL_two hn hs]
    obtain ⟨a, b, c'⟩ := rounds_max hn hs
    split
    · have := ih1 (x - hiz n s) (c + (1 + kp n s)); omega
    · rw [List.length_cons]
      split
      · have := rho_pos (n := n) (s := s) hn (by omega)
        show ((0 + 1 : Nat) : Int) ≤ _
        omega
      · have := ih2 x (c + (2 + 2 * kp n s + opsN (n - hiz n s) (s - 1)))
        omega
theorem times_in : ∀ n s : Int, 1 ≤ n → 1 ≤ s → ∀ x, 0 ≤ x → x < n - 1 → 1 ≤ timesD n s x ∧ timesD n s x ≤ rho n s := by
  refine plan_ind (fun n s hn hs h x h0 h1 => ?_) (fun n s hn hs ih1 ih2 x h0 h1 => ?_)
  · rw [timesD_row h]
    have e : s = 1 := by omega
    subst e
    rw [rho_slot1 hn]
    omega
  · rw [timesD_two hn hs]
    obtain ⟨a, b, c⟩ := rounds_max hn hs
    split
    · have := ih1 (x - hiz n s) (by omega) (by omega)
      omega
    · split
      · have := rho_pos (n := n) (s := s) hn (by omega)
        omega
      · have := ih2 x h0 (by omega)
        omega
/-- the number of an operation -/
def Op.num : Op → Int
  | .go k => k
  | .take m => m
  | .free m => m
  | _ => 0
theorem opAt_num : ∀ n s : Int, 1 ≤ n → 1 ≤ s → ∀ b i, 0 ≤ b → 0 ≤ i → i < opsN n s → 0 ≤ (opAt n s b i).num ∧ (opAt n s b i).num ≤ b + n := by
  refine plan_ind (fun n s hn hs h b i hb h0 h1 => ?_) (fun n s hn hs ih1 ih2 b i hb h0 h1 => ?_)
  · rw [opsN_row h] at h1
    rw [opAt_row h]
    unfold rowOp
    split
    · exact ⟨by show (0 : Int) ≤ 0; omega, by show (0 : Int) ≤ b + n; omega⟩
    · split
      · exact ⟨by show 0 ≤ n - 1 - i / 3; omega, by show n - 1 - i / 3 ≤ b + n; omega⟩
      · exact ⟨hb, by show b ≤ b + n; omega⟩
  · obtain ⟨l1, l2, l3⟩ := loz_range hn hs
    have ek := opsN_kp hn hs
    have k01 := kp_01 n s
    rw [opAt_two hn hs]
    split
    · exact ⟨by show 0 ≤ hiz n s; omega, by show hiz n s ≤ b + n; omega⟩
    · split
      · exact ⟨by show (0 : Int) ≤ 0; omega, by show (0 : Int) ≤ b + n; omega⟩
      · split
        · have := ih1 (b + hiz n s) (i - (1 + kp n s)) (by omega) (by omega) (by omega)
          omega
        · split
          · exact ⟨by show 0 ≤ b + hiz n s; omega, by show b + hiz n s ≤ b + n; omega⟩
          · split
            · exact ⟨hb, by show b ≤ b + n; omega⟩
            · have og := opsN_ge (n - hiz n s) (s - 1) (by omega) (by omega)
              have := ih2 b (i - (1 + kp n s) - opsN (n - hiz n s) (s - 1) - kp n s - 1) hb (by omega) (by omega)
              omega
end Bs

namespace Bs
/-! ### no list that frees only what is of no use has fewer steps than the least ones -/
def way (L s d m : Int) : Int := if s < 2 ∧ m < L - 1 then tz L s else (m - d) + (if m < L - 1 then tz (L - m) (s - 1) else 0) + tz m s
def Abn (L s d : Int) : Nat → Int
  | 0 => tz L s
  | j + 1 => min (Abn L s d j) (way L s d (L - 1 - (j : Int)))
/-- the steps that L states want at least with s slots, the hand d ahead of their first one -/
def Ab (L s d : Int) : Int := Abn L s d (L - max d 1).toNat
theorem Abn_tz (L s d : Int) : ∀ j, Abn L s d j ≤ tz L s
  | 0 => Int.le_refl _
  | j + 1 => by
    have := Abn_tz L s d j
    unfold Abn
    omega
theorem Abn_way (L s d : Int) : ∀ (j i : Nat), i < j → Abn L s d j ≤ way L s d (L - 1 - (i : Int))
  | 0, i, h => by omega
  | j + 1, i, h => by
    unfold Abn
    by_cases e : i = j
    · subst e
      omega
    · have := Abn_way L s d j i (by omega)
      omega
theorem Abn_ge {L s d x : Int} (h0 : x ≤ tz L s) : ∀ j : Nat, (∀ i : Nat, i < j → x ≤ way L s d (L - 1 - (i : Int))) → x ≤ Abn L s d j
  | 0, _ => h0
  | j + 1, h => by
    have a := Abn_ge h0 j fun i hi => h i (by omega)
    have b := h j (by omega)
    unfold Abn
    omega
theorem Ab_tz (L s d : Int) : Ab L s d ≤ tz L s := Abn_tz L s d _
theorem Ab_way {L s d m : Int} (h1 : max d 1 ≤ m) (h2 : m ≤ L - 1) : Ab L s d ≤ way L s d m := by
  have := Abn_way L s d (L - max d 1).toNat (L - 1 - m).toNat (by omega)
  rw [show L - 1 - (((L - 1 - m).toNat : Nat) : Int) = m by omega] at this
  exact this
theorem Ab_ge {L s d x : Int} (h0 : x ≤ tz L s) (h : ∀ m, max d 1 ≤ m → m ≤ L - 1 → x ≤ way L s d m) : x ≤ Ab L s d :=
  Abn_ge h0 _ fun i hi => h _ (by omega) (by omega)
theorem Ab_0 {L s : Int} (hL : 1 ≤ L) (hs : 1 ≤ s) : Ab L s 0 = tz L s := by
  refine Int.le_antisymm (Ab_tz L s 0) (Ab_ge (Int.le_refl _) fun m h1 h2 => ?_)
  unfold way
  by_cases c : s < 2 ∧ m < L - 1
  · rw [if_pos c]
    exact Int.le_refl _
  · rw [if_neg c]
    by_cases q : m < L - 1
    · rw [if_pos q]
      have := tz_le_fz (n := L) (s := s) (m := m) (by omega) (by omega) (by omega)
      unfold fz at this
      omega
    · rw [if_neg q]
      have e : m = L - 1 := by omega
      subst e
      have a := tz_succ (n := L - 1) (s := s) (by omega) hs
      have b := rho_lt (n := L) (s := s) hL hs
      rw [show L - 1 + 1 = L by omega] at a
      omega
theorem Ab_step {L s d : Int} (h0 : 0 ≤ d) : Ab L s d ≤ 1 + Ab L s (d + 1) := by
  have h : Ab L s d - 1 ≤ Ab L s (d + 1) := by
    refine Ab_ge (by have := Ab_tz L s d; omega) fun m h1 h2 => ?_
    have a := Ab_way (L := L) (s := s) (d := d) (m := m) (by omega) h2
    unfold way at a ⊢
    split at a
    · rename_i c
      rw [if_pos c]
      omega
    · rename_i c
      rw [if_neg c]
      omega
  omega
theorem Ab_keep {L s d : Int} (h1 : 1 ≤ d) (h2 : d ≤ L - 1) (hs : 2 ≤ s) : Ab L s d ≤ tz d s + tz (L - d) (s - 1) := by
  have a := Ab_way (L := L) (s := s) (d := d) (m := d) (by omega) h2
  unfold way at a
  rw [if_neg (by omega)] at a
  by_cases q : d < L - 1
  · rw [if_pos q] at a
    omega
  · rw [if_neg q] at a
    have e : L - d = 1 := by omega
    rw [e, tz_one (by omega)]
    omega
theorem Ab_last {L s : Int} (h : 2 ≤ L) : Ab L s (L - 1) ≤ tz (L - 1) s := by
  have a := Ab_way (L := L) (s := s) (d := L - 1) (m := L - 1) (by omega) (by omega)
  unfold way at a
  rw [if_neg (by omega), if_neg (by omega)] at a
  omega
def nx (r : List Int) (w : Int) : Int := match r with
  | [] => w + 1
  | a :: _ => a
def sg (s k e h : Int) : Int := if k ≤ h ∧ h < e then Ab (e - k) s (h - k) else tz (e - k) s
/-- the steps that are wanted at least: ks the kept states up to w, ascending; h at hand -/
def phi : Int → List Int → Int → Int → Int
  | _, [], _, _ => 0
  | s, k :: r, w, h => sg s k (nx r w) h + phi (s - 1) r w h
def psum : Int → List Int → Int → Int
  | _, [], _ => 0
  | s, k :: r, w => tz (nx r w - k) s + psum (s - 1) r w
/-- ascending, none beyond w -/
def Asc : List Int → Int → Prop
  | [], _ => True
  | k :: r, w => k < nx r w ∧ Asc r w
theorem sg_le (s k e h : Int) : sg s k e h ≤ tz (e - k) s := by
  unfold sg
  split
  · exact Ab_tz _ _ _
  · exact Int.le_refl _
theorem phi_le : ∀ (s : Int) (ks : List Int) (w h : Int), phi s ks w h ≤ psum s ks w
  | _, [], _, _ => Int.le_refl _
  | s, k :: r, w, h => by
    have a := sg_le s k (nx r w) h
    have b := phi_le (s - 1) r w h
    show sg s k (nx r w) h + phi (s - 1) r w h ≤ tz (nx r w - k) s + psum (s - 1) r w
    omega
theorem asc_le : ∀ {ks : List Int} {w k : Int}, Asc ks w → k ∈ ks → k ≤ w
  | [], _, _, _, h => nomatch h
  | [a], w, k, h, hk => by
    have : a < w + 1 := h.1
    rw [List.mem_singleton.mp hk]
    omega
  | a :: b :: r, w, k, h, hk => by
    rcases List.mem_cons.mp hk with rfl | hk
    · have := asc_le (ks := b :: r) h.2 (List.mem_cons_self ..)
      have : k < b := h.1
      omega
    · exact asc_le (ks := b :: r) h.2 hk
theorem asc_lt : ∀ {r : List Int} {w k x : Int}, Asc (k :: r) w → x ∈ r → nx r w ≤ x
  | [], _, _, _, _, hx => nomatch hx
  | b :: r, w, k, x, h, hx => by
    rcases List.mem_cons.mp hx with rfl | hx
    · exact Int.le_refl _
    · have := asc_lt (r := r) (k := b) h.2 hx
      have : b < nx r w := h.2.1
      show b ≤ x
      omega
theorem nx_le {r : List Int} {w : Int} (h : Asc r w) : nx r w ≤ w + 1 := by
  cases r with
  | nil => exact Int.le_refl _
  | cons a r =>
    have := asc_le h (List.mem_cons_self ..)
    show a ≤ w + 1
    omega
theorem phi_off : ∀ {s : Int} {ks : List Int} {w h : Int}, Asc ks w → h < nx ks w → phi s ks w h = psum s ks w
  | _, [], _, _, _, _ => rfl
  | s, k :: r, w, h, ha, hh => by
    have hh : h < k := hh
    show sg s k (nx r w) h + phi (s - 1) r w h = tz (nx r w - k) s + psum (s - 1) r w
    rw [phi_off ha.2 (by have := ha.1; omega)]
    unfold sg
    rw [if_neg (by omega)]
/-- the hand at a kept state, or beyond w, spares nothing -/
theorem phi_eq : ∀ {s : Int} {ks : List Int} {w h : Int}, Asc ks w → (ks.length : Int) ≤ s → (h ∈ ks ∨ w < h) → phi s ks w h = psum s ks w
  | _, [], _, _, _, _, _ => rfl
  | s, k :: r, w, h, ha, hs, hh => by
    have ls : ((k :: r).length : Int) = (r.length : Int) + 1 := by rw [List.length_cons]; omega
    have nl := nx_le ha.2
    have e : sg s k (nx r w) h = tz (nx r w - k) s := by
      unfold sg
      split
      · rename_i c
        have : h = k := by
          rcases hh with hh | hh
          · rcases List.mem_cons.mp hh with e | hh
            · exact e
            · have := asc_lt ha hh
              omega
          · omega
        subst this
        rw [Int.sub_self]
        exact Ab_0 (by have := ha.1; omega) (by omega)
      · rfl
    show sg s k (nx r w) h + phi (s - 1) r w h = tz (nx r w - k) s + psum (s - 1) r w
    rw [e]
    by_cases q : h ∈ r ∨ w < h
    · rw [phi_eq ha.2 (by omega) q]
    · have hk : h = k := by
        rcases hh with hh | hh
        · exact (List.mem_cons.mp hh).resolve_right fun z => q (.inl z)
        · exact absurd (.inr hh) q
      rw [phi_off (s := s - 1) ha.2 (by have := ha.1; omega)]
/-- a go by one -/
theorem phi_go1 : ∀ {s : Int} {ks : List Int} {w h : Int}, Asc ks w → (ks.length : Int) ≤ s → phi s ks w h ≤ 1 + phi s ks w (h + 1)
  | _, [], _, _, _, _ => by show (0 : Int) ≤ 1 + 0; decide
  | s, k :: r, w, h, ha, hs => by
    have ls : ((k :: r).length : Int) = (r.length : Int) + 1 := by rw [List.length_cons]; omega
    have nl := nx_le ha.2
    have h1 := ha.1
    show sg s k (nx r w) h + phi (s - 1) r w h ≤ 1 + (sg s k (nx r w) (h + 1) + phi (s - 1) r w (h + 1))
    have a := sg_le s k (nx r w) h
    by_cases c1 : k ≤ h ∧ h < nx r w
    · rw [phi_off (s := s - 1) ha.2 c1.2]
      by_cases c2 : h + 1 < nx r w
      · rw [phi_off (s := s - 1) ha.2 c2]
        have e1 : sg s k (nx r w) h = Ab (nx r w - k) s (h - k) := if_pos c1
        have e2 : sg s k (nx r w) (h + 1) = Ab (nx r w - k) s (h - k + 1) := by unfold sg; rw [if_pos ⟨by omega, c2⟩, show h + 1 - k = h - k + 1 by omega]
        have := Ab_step (L := nx r w - k) (s := s) (d := h - k) (by omega)
        omega
      · have e2 : sg s k (nx r w) (h + 1) = tz (nx r w - k) s := by unfold sg; rw [if_neg (by omega)]
        have e3 : phi (s - 1) r w (h + 1) = psum (s - 1) r w := by
          refine phi_eq ha.2 (by omega) ?_
          cases r with
          | nil =>
            have : ¬ h + 1 < w + 1 := c2
            exact .inr (by omega)
          | cons b r =>
            have c2 : ¬ h + 1 < b := c2
            have c1 : h < b := c1.2
            have : h + 1 = b := by omega
            rw [this]
            exact .inl (List.mem_cons_self ..)
        omega
    · have e1 : sg s k (nx r w) h = tz (nx r w - k) s := if_neg c1
      have e2 : sg s k (nx r w) (h + 1) = tz (nx r w - k) s := by
        unfold sg
        split
        · rename_i c
          have : h + 1 = k := by omega
          rw [this, Int.sub_self]
          exact Ab_0 (by omega) (by omega)
        · rfl
      have := phi_go1 (s := s - 1) (ks := r) (w := w) (h := h) ha.2 (by omega)
      omega
theorem phi_go {s : Int} {ks : List Int} {w : Int} (ha : Asc ks w) (hs : (ks.length : Int) ≤ s) : ∀ (k : Nat) (h : Int), phi s ks w h ≤ k + phi s ks w (h + k)
  | 0, h => by rw [show h + ((0 : Nat) : Int) = h by omega]; omega
  | k + 1, h => by
    have a := phi_go1 (h := h) ha hs
    have b := phi_go ha hs k (h + 1)
    rw [show h + ((k + 1 : Nat) : Int) = h + 1 + (k : Int) by omega]
    omega
theorem psum_anti : ∀ {s : Int} {ks : List Int} {w : Int}, Asc ks w → (ks.length : Int) ≤ s → psum (s + 1) ks w ≤ psum s ks w
  | _, [], _, _, _ => Int.le_refl _
  | s, k :: r, w, ha, hs => by
    have ls : ((k :: r).length : Int) = (r.length : Int) + 1 := by rw [List.length_cons]; omega
    have h1 := ha.1
    have a := tz_anti (n := nx r w - k) (s := s) (by omega) (by omega)
    have b := psum_anti (s := s - 1) ha.2 (by omega)
    rw [show s - 1 + 1 = s by omega] at b
    show tz (nx r w - k) (s + 1) + psum (s + 1 - 1) r w ≤ tz (nx r w - k) s + psum (s - 1) r w
    rw [show s + 1 - 1 = s by omega]
    omega
def insA (h : Int) : List Int → List Int
  | [] => [h]
  | k :: r => if h < k then h :: k :: r else k :: insA h r
/-- a state kept -/
theorem phi_keep : ∀ {s : Int} {k : Int} {r : List Int} {w h : Int}, Asc (k :: r) w → ((k :: r).length : Int) + 1 ≤ s → k < h → h ≤ w → h ∉ r →
    phi s (k :: r) w h ≤ psum s (k :: insA h r) w ∧ Asc (k :: insA h r) w
  | s, k, [], w, h, ha, hs, hk, hw, hn => by
    have hs : ((1 : Nat) : Int) + 1 ≤ s := hs
    have e : phi s [k] w h = Ab (w + 1 - k) s (h - k) + 0 := by
      show sg s k (w + 1) h + 0 = _
      unfold sg
      rw [if_pos ⟨by omega, by omega⟩]
    have := Ab_keep (L := w + 1 - k) (s := s) (d := h - k) (by omega) (by omega) (by omega)
    rw [e]
    refine ⟨?_, hk, by show h < w + 1; omega, trivial⟩
    show _ ≤ tz (h - k) s + (tz (w + 1 - h) (s - 1) + 0)
    rw [show w + 1 - k - (h - k) = w + 1 - h by omega] at this
    omega
  | s, k, b :: r, w, h, ha, hs, hk, hw, hn => by
    have hb : h ≠ b := fun z => hn (by rw [z]; exact List.mem_cons_self ..)
    have ls : ((k :: b :: r).length : Int) = (r.length : Int) + 2 := by rw [List.length_cons, List.length_cons]; omega
    have lb : ((b :: r).length : Int) = (r.length : Int) + 1 := by rw [List.length_cons]; omega
    have kb : k < b := ha.1
    by_cases c : h < b
    · have e : phi s (k :: b :: r) w h = Ab (b - k) s (h - k) + psum (s - 1) (b :: r) w := by
        show sg s k b h + phi (s - 1) (b :: r) w h = _
        rw [phi_off (s := s - 1) ha.2 c]
        unfold sg
        rw [if_pos ⟨by omega, c⟩]
      have ek : insA h (b :: r) = h :: b :: r := if_pos c
      have a := Ab_keep (L := b - k) (s := s) (d := h - k) (by omega) (by omega) (by omega)
      have d := psum_anti (s := s - 2) (ks := b :: r) (w := w) ha.2 (by omega)
      rw [show s - 2 + 1 = s - 1 by omega] at d
      rw [e, ek]
      refine ⟨?_, hk, c, ha.2⟩
      show _ ≤ tz (h - k) s + (tz (b - h) (s - 1) + psum (s - 1 - 1) (b :: r) w)
      rw [show b - k - (h - k) = b - h by omega] at a
      rw [show s - 1 - 1 = s - 2 by omega]
      omega
    · have ek : insA h (b :: r) = b :: insA h r := if_neg c
      have ih := phi_keep (s := s - 1) (k := b) (r := r) (w := w) (h := h) ha.2 (by omega) (by omega) hw fun z => hn (List.mem_cons_of_mem _ z)
      rw [ek]
      refine ⟨?_, kb, ih.2⟩
      have e : sg s k b h = tz (b - k) s := by unfold sg; rw [if_neg (by omega)]
      show sg s k b h + phi (s - 1) (b :: r) w h ≤ tz (b - k) s + psum (s - 1) (b :: insA h r) w
      rw [e]
      have := ih.1
      omega
/-- the back of w -/
theorem phi_back : ∀ {s : Int} {k : Int} {r : List Int} {w : Int}, Asc (k :: r) w → ((k :: r).length : Int) ≤ s →
    phi s (k :: r) w w ≤ psum s ((k :: r).filter fun x => decide (x < w)) (w - 1) ∧ Asc ((k :: r).filter fun x => decide (x < w)) (w - 1)
  | s, k, [], w, ha, hs => by
    have hs : ((1 : Nat) : Int) ≤ s := hs
    have kw : k < w + 1 := ha.1
    by_cases c : k < w
    · rw [List.filter_cons_of_pos (by exact decide_eq_true c)]
      have e : phi s [k] w w = Ab (w + 1 - k) s (w - k) + 0 := by
        show sg s k (w + 1) w + 0 = _
        unfold sg
        rw [if_pos ⟨by omega, by omega⟩]
      have := Ab_last (L := w + 1 - k) (s := s) (by omega)
      rw [e]
      refine ⟨?_, by show k < w - 1 + 1; omega, trivial⟩
      show _ ≤ tz (w - 1 + 1 - k) s + 0
      rw [show w + 1 - k - 1 = w - k by omega] at this
      rw [show w - 1 + 1 - k = w - k by omega]
      omega
    · have ek : k = w := by omega
      subst ek
      rw [List.filter_cons_of_neg (by simp)]
      refine ⟨?_, trivial⟩
      have e : phi s [k] k k = psum s [k] k := phi_eq ha hs (.inl (List.mem_cons_self ..))
      rw [e]
      show tz (k + 1 - k) s + 0 ≤ 0
      rw [show k + 1 - k = 1 by omega, tz_one (by omega)]
      decide
  | s, k, b :: r, w, ha, hs => by
    have ls : ((k :: b :: r).length : Int) = (r.length : Int) + 2 := by rw [List.length_cons, List.length_cons]; omega
    have lb : ((b :: r).length : Int) = (r.length : Int) + 1 := by rw [List.length_cons]; omega
    have kb : k < b := ha.1
    have bw := asc_le ha.2 (List.mem_cons_self ..)
    have ih := phi_back (s := s - 1) (k := b) (r := r) (w := w) ha.2 (by omega)
    rw [List.filter_cons_of_pos (by exact decide_eq_true (show k < w by omega))]
    have e : sg s k b w = tz (b - k) s := by unfold sg; rw [if_neg (by omega)]
    have en : nx ((b :: r).filter fun x => decide (x < w)) (w - 1) = b := by
      by_cases c : b < w
      · rw [List.filter_cons_of_pos (by exact decide_eq_true c)]
        rfl
      · have eb : b = w := by omega
        have er : r = [] := by
          cases r with
          | nil => rfl
          | cons x r =>
            have x1 := asc_le ha.2 (List.mem_cons_of_mem b (List.mem_cons_self (a := x) (l := r)))
            have : b < x := ha.2.1
            omega
        subst er
        rw [List.filter_cons_of_neg (by simp; omega)]
        show w - 1 + 1 = b
        omega
    refine ⟨?_, by rw [en]; exact kb, ih.2⟩
    show sg s k b w + phi (s - 1) (b :: r) w w ≤ tz (nx ((b :: r).filter fun x => decide (x < w)) (w - 1) - k) s + psum (s - 1) ((b :: r).filter fun x => decide (x < w)) (w - 1)
    rw [e, en]
    have := ih.1
    omega
end Bs

namespace Bs
open PySem PySem.Spec PyProof.Rows L2
open Evl (Ex)
/-! ### a caught exception that is kept: it is tracked -/
def EV (cls : Value) (d : Option Addr) (a : Addr) : HO :=
  .ext fun h => ∃ oe vs, h.get? a = some oe ∧ Zc cls d oe ∧ oe.data = Data.fields vs
theorem ev_ok {P : Program} {w : World} {H : Hp} {h : Heap} {a : Addr} {cls : Value} {d : Option Addr} {oe : Obj} {vs : Array Value}
    (e : h.get? a = some oe) (z : Zc cls d oe) (q : oe.data = Data.fields vs) : ObjOk P w H h a (EV cls d a) :=
  ⟨⟨oe, vs, e, z, q⟩, ⟨oe, e⟩, fun _ _ y k => by
    obtain ⟨o, u, y1, y2⟩ := y
    exact ⟨o, u, k o y1, y2⟩⟩
theorem ev_at {P : Program} {w : World} {H : Hp} {h : Heap} {a : Addr} {cls : Value} {d : Option Addr} (hok : HOk P w H h) (he : H a = some (EV cls d a)) :
    ∃ oe vs, h.get? a = some oe ∧ Zc cls d oe ∧ oe.data = Data.fields vs := by
  have x : ObjOk P w H h a (HO.ext fun h => ∃ oe vs, h.get? a = some oe ∧ Zc cls d oe ∧ oe.data = Data.fields vs) := hok a _ he
  exact x.1
section
variable {X : Cx} {pins : List (Addr × Obj)} {σ : L2.St} {H : Hp} {s : Shared}
/-- what stands already, new to the def, is tracked from now on -/
theorem inv_track {a : Addr} {o : HO} (I : Inv X pins σ H s) (na : H a = none) (n0 : X.s_0.heap.get? a = none) (nL : a ≠ X.env.locals)
    (nC : ∀ x c, X.env.cells.lookup x = some c → c ≠ a) (nP : ∀ p ∈ X.pn ++ pins, p.1 ≠ a) (new : ObjOk X.prog X.w (upd H a o) s.heap a o) : Inv X pins σ (upd H a o) s := by
  have up : ∀ {b : Addr} {u : HO}, H b = some u → upd H a o b = some u := fun {b u} q => by rw [upd_ne (ne_of_none q na), q]
  have un : ∀ {b : Addr}, b ≠ a → H b = none → upd H a o b = none := fun {b} n q => by rw [upd_ne n, q]
  refine ⟨I.ok, I.os, I.bare, ⟨I.base.keep, I.base.slot, ?_, I.base.there, ?_, ?_, ?_⟩, I.loc, I.cell, un (Ne.symm nL) I.free, ?_, ?_, ?_, I.len⟩
  · intro b u e n hx
    exact un (fun z => by rw [z, n0] at e; cases e) (I.base.free b u e n hx)
  · intro b xs e
    exact up (I.base.tups b xs e)
  · intro b u xs e
    exact up (I.base.frzs b u xs e)
  · intro b ps e
    obtain ⟨m, q⟩ := I.base.tbls b ps e
    exact ⟨m, up q⟩
  · intro x c e
    exact un (nC x c e) (I.freeC x c e)
  · intro p hp
    obtain ⟨e, n, r⟩ := I.pin p hp
    exact ⟨e, un (nP p hp) n, r⟩
  · intro b u e
    by_cases hb : b = a
    · subst hb
      rw [upd_same] at e
      cases e
      exact new
    · rw [upd_ne hb] at e
      refine (I.hok b u e).stay (fun _ _ _ q => q) (fun _ q => up q) fun _ _ q => up q
theorem inv_su (I : Inv X pins σ H s) (a : Addr) : Inv (X.suite a (X.pn ++ pins)) [] σ H s := by
  refine ⟨I.ok.suite _ _, I.os, I.bare, I.base, I.loc, I.cell, I.free, I.freeC, ?_, I.hok, I.len⟩
  intro p hp
  rw [List.append_nil] at hp
  exact I.pin p hp
theorem inv_unsu {a : Addr} {pn : List (Addr × Obj)} (I : Inv (X.suite a (X.pn ++ pins)) pn σ H s) (ok : X.Ok) : Inv X pins σ H s := by
  refine ⟨ok, I.os, I.bare, I.base, I.loc, I.cell, I.free, I.freeC, ?_, I.hok, I.len⟩
  intro p hp
  exact I.pin p (List.mem_append_left _ hp)
end
/-- try: body, except c as slot i: suite, what is caught being tracked -/
def wAsV (K : PySem.W.Frag) (c : Value) (i : Nat) (ts : TS) (Wout : WX) (D : Ends) : WX := fun cls d σ H =>
  ∃ b, PySem.W.exmOne K cls c = some b ∧
    (b = true → ∀ a, H a = none → ts ⟨fun σ' => D.nx (σ'.set i none), D.rt, fun σ' => D.bk (σ'.set i none), fun σ' => D.ct (σ'.set i none)⟩ (σ.set i (some (.ref a))) (upd H a (EV cls d a))) ∧
    (b = false → Wout cls d σ H)
def tTryV (K : PySem.W.Frag) (c : Value) (i : Nat) (tb : WX → TS) (ts : TS) (Wout : WX) : TS := fun D => tb (wAsV K c i ts Wout D) D
section
variable {X : Cx} {x n : Str} {c : Value} {i : Nat} {body su : List Stmt} {st : Stmt} {np pos pos' : Pos} {tb : WX → TS} {ts : TS} {Wout : WX}
theorem ps_try_asV (hs : X.stack = X.env :: X.outer) (hf : X.env.frame = some X.env.locals) (hex : X.ex = []) (hN : X.N.Nodup) (hi : X.N[i]? = some n) (hln : X.env.kindOf n = some .local)
    (hc : Names X x c) (tk : Takes X Wout)
    (hb : ∀ W pn xe, Takes (X.tr pn xe) W → PassesOwn (model X.prog X.w) X.A X.env xe → PSs (X.tr pn xe) body (tb W))
    (hsu : ∀ a pn, PSs (X.suite a pn) (st :: su) ts) :
    PS X (.Try body [.ExceptHandler (some (.Name x np)) (some n) (st :: su) pos'] [] [] pos) (tTryV X.K c i tb ts Wout) := by
  constructor
  intro pins s σ H D I h
  have ok := I.ok
  have frm : X.A.frames = some (X.env :: X.outer) := by
    rw [ok.frames, hs]
  apply wpAny_Try_except
  let hh : List ExceptHandler := [.ExceptHandler (some (.Name x np)) (some n) (st :: su) pos']
  let xe1 : Value → Shared → Prop := fun e t0 => wpAny (model X.prog X.w) X.A (noteFrame e X.env)
    (fun _ t1 => wpAny (model X.prog X.w) X.A (setFlight e none)
      (fun _ t2 => wpAny (model X.prog X.w) X.A (handleBy e X.env hh) (SP X pins D) X.xe t2) X.xe t1) X.xe t0
  have takes : Takes (X.tr (X.pn ++ pins) xe1) (wAsV X.K c i ts Wout D) := by
    rintro _ s' ⟨a, B, sI, pins', σ', H', cls, d, rfl, J0, nb, up, sky, na, os, ag, b, hb1, yes, no⟩
    have J : Inv X pins σ' H' sI := J0.ofTry ok
    have sky2 : Sky B (X.env :: X.outer) a (Zc cls d) X.env.locals s'.heap := by
      rw [← hs]
      exact sky
    show wpAny (model X.prog X.w) X.A (noteFrame (.ref a) X.env) _ _ _
    refine Sky.land Zc.steady frm hf sky2 ?_
    intro h3 fl3 up3
    have J3 : Inv X pins σ' H' { s' with heap := h3 } := J.landed nb fl3.1 (up.trans up3) os ag
    obtain ⟨oe3, vs3, g3, z3, d3⟩ := fl3.there
    have noFr : a ∉ frs (X.env :: X.outer) := by
      intro hm
      obtain ⟨_, o', e', hnf⟩ := fl3.2.2.1.mem hm
      rw [g3] at e'
      cases e'
      exact hnf _ d3
    have nL : a ≠ X.env.locals := by
      intro z
      exact noFr (List.mem_filterMap.mpr ⟨X.env, List.mem_cons_self, by rw [hf, z]⟩)
    have nF : a ∉ X.fs := by
      intro hm
      obtain ⟨e, he, q⟩ := List.mem_filterMap.mp hm
      exact noFr (List.mem_filterMap.mpr ⟨e, List.mem_cons_of_mem _ he, q⟩)
    have Ba : B.get? a = none := fl3.2.1
    have noFs : a ∉ frs X.stack := by
      rw [hs]
      exact noFr
    have S3 := J3.suite g3 d3 na nL nF
    refine wpAny_handleBy_cons (codeAny_handlers_test ?_) (by intro q; cases q)
    have LT : PySem.W.Looks (model X.prog X.w) h3 (typeOf (.ref a)) cls := by
      intro A Q E s k q
      exact wpAny_typeOf_ref (k _ _ g3) (by rw [z3.1]; exact q)
    have LM := PySem.W.exm_one (M := model X.prog X.w) (J3.kIn) LT hb1
    have named : ∀ {Q : Value → Shared → Prop} {E : Value → Shared → Prop}, Q c { s' with heap := h3 } →
        wpAny (model X.prog X.w) (X.A.mark (some (.ref a))) (eval (.Name x np) X.env) Q E { s' with heap := h3 } := by
      intro Q E q
      obtain ⟨hg, hdb, hm | ⟨hm, hv, hnn⟩⟩ := hc
      · exact ld_glob (X := X.suite a ((a, oe3) :: (X.pn ++ pins))) S3 hg hm q hdb
      · exact ld_blt (X := X.suite a ((a, oe3) :: (X.pn ++ pins))) S3 hg hm hv q hnn hdb
    apply named
    apply LM.here
    cases b with
    | false =>
      show wpAny _ X.A (handleBy (.ref a) X.env []) _ _ _
      apply wpAny_handleBy_nil
      obtain ⟨_, _, _, oe, vs, T, oT, ts', he, _, hd, h1, _⟩ := id fl3
      have fin : wpAny (model X.prog X.w) X.A (setFlight (.ref a) X.env.frame) (fun _ s4 => wpAny (model X.prog X.w) X.A (throw (.ref a) : Sem Flow) (SP X pins D) X.xe s4) X.xe { s' with heap := h3 } := by
        rw [hf]
        refine HandSPX.setFlight_upZ fl3 fun h4 hh4 up4 => wpAny_throw (tk _ _ ?_)
        refine ⟨a, B, sI, pins, σ', H', cls, d, rfl, J, nb, (up.trans up3).trans up4, ?_, na, os, ag, no rfl⟩
        rw [hs]
        exact .inr (.inr hh4)
      unfold PySem.passOn
      refine wpAny_bind (wpAny_field he hd h1 ?_)
      rw [if_neg (by simp)]
      first
        | exact wpAny_bind (wpAny_pure (wpAny_bind fin))
        | exact wpAny_bind fin
    | true =>
      apply codeAny_handlers_suite_as
      refine HandSPX.lands_againZ fl3 ?_
      intro h4 fl4 up4
      have J4 : Inv X pins σ' H' { s' with heap := h4 } := J.landed nb fl4.1 ((up.trans up3).trans up4) os ag
      obtain ⟨oe4, vs4, g4, z4, d4⟩ := fl4.there
      have n0 : X.s_0.heap.get? a = none := by
        cases e : X.s_0.heap.get? a with
        | none => rfl
        | some o =>
          obtain ⟨o', e'⟩ := J.base.there a o e (by rw [hex]; exact fun z => nomatch z)
          rw [nb a o' e' noFs] at Ba
          cases Ba
      have nC : ∀ x c, X.env.cells.lookup x = some c → c ≠ a := by
        intro y c' e z
        obtain ⟨v, o, ho, hd⟩ := J4.cell y c' e
        rw [z, g4] at ho
        cases ho
        rw [d4] at hd
        cases hd
      have nP : ∀ p ∈ X.pn ++ pins, p.1 ≠ a := by
        intro p hp z
        obtain ⟨e, _, q1, q2, _⟩ := J.pin p hp
        have nf : p.1 ∉ frs X.stack := by
          intro hm
          rw [z] at hm
          exact noFs hm
        have := nb _ _ e nf
        rw [z, Ba] at this
        cases this
      have J5 : Inv X pins σ' (upd H' a (EV cls d a)) { s' with heap := h4 } := inv_track J4 na n0 nL nC nP (ev_ok g4 z4 d4)
      refine store_ok (X := X.suite a (X.pn ++ pins)) (v := .ref a) (inv_su J5 a) hN hi (.inl hln) rfl (fun s5 S5 => ?_) (.inr hln)
      refine wpAny_mono ((hsu a (X.pn ++ pins)).run [] s5 _ _ _ S5 (yes rfl a na)) ?_ (fun _ _ z => False.elim z)
      intro f s6 hsp
      have back : ∀ {σ6 : L2.St} {H6 : Hp} {Q : Shared → Prop}, Inv (X.suite a (X.pn ++ pins)) [] σ6 H6 s6 → (∀ s7, Inv X pins (σ6.set i none) H6 s7 → Q s7) →
          wpAny (model X.prog X.w) X.A (do bindName X.env n .none; unbindBehindTheSuite X.env n pos') (fun _ s7 => Q s7) X.xe s6 := by
        intro σ6 H6 Q S6 hq
        exact gone_ok (inv_unsu S6 ok) hN hi hln hq
      cases f with
      | ret u =>
        obtain ⟨v6, σ6, H6, S6, r6, q6⟩ := hsp
        exact back S6 fun s7 J7 => ⟨_, _, _, J7, r6, q6⟩
      | next => obtain ⟨σ6, H6, S6, q6⟩ := hsp; exact back S6 fun s7 J7 => ⟨_, _, J7, q6⟩
      | brk => obtain ⟨σ6, H6, S6, q6⟩ := hsp; exact back S6 fun s7 J7 => ⟨_, _, J7, q6⟩
      | cont => obtain ⟨σ6, H6, S6, q6⟩ := hsp; exact back S6 fun s7 J7 => ⟨_, _, J7, q6⟩
  have run := (hb (wAsV X.K c i ts Wout D) (X.pn ++ pins) xe1 takes PassesOwn.looking).run [] s σ H D (I.toTry _) h
  refine wpAny_mono run ?_ (fun e s1 he => he)
  intro f s1 hsp
  cases f with
  | ret u =>
    obtain ⟨v, σ', H', J', r, q⟩ := hsp
    exact ⟨v, σ', H', J'.ofTry ok, r, q⟩
  | next =>
    obtain ⟨σ', H', J', q⟩ := hsp
    exact wpAny_execs_nil ⟨σ', H', J'.ofTry ok, q⟩
  | brk => obtain ⟨σ', H', J', q⟩ := hsp; exact ⟨σ', H', J'.ofTry ok, q⟩
  | cont => obtain ⟨σ', H', J', q⟩ := hsp; exact ⟨σ', H', J'.ofTry ok, q⟩
end

/-! ### what is asked of a kept exception -/
theorem ev_inst {P : Program} {w : World} {H : Hp} {h : Heap} {a D : Addr} {d : Option Addr} (hok : HOk P w H h) (he : H a = some (EV (.ref D) d a)) (hd : ∀ dd, d = some dd → ∃ fs, H dd = some (.xd fs)) :
    ∃ oe od, PySem.W.InstAt h a oe D od := by
  obtain ⟨oe, vs, g, z, q⟩ := ev_at hok he
  have no : PySem.W.notCls oe = true := by unfold PySem.W.notCls; rw [q] <;> rfl
  cases d with
  | none => exact ⟨oe, none, g, z.1, no, by rw [z.2]; trivial⟩
  | some dd =>
    obtain ⟨fs, hf⟩ := hd dd rfl
    have hx : ObjOk P w H h dd (.xd fs) := hok dd _ hf
    obtain ⟨mA, hns, hr⟩ := hx
    obtain ⟨od, ho, hl⟩ := lookIn_ns hns
    exact ⟨oe, some od, g, z.1, no, by rw [z.2]; exact ho⟩
def rIsV (K : PySem.W.Frag) : List V → Hp → VK → Prop := fun xs H Q => ∃ (a D : Addr) (d : Option Addr) (c : V) (cv : Value) (b : Bool), xs = [.ref a, c] ∧ H a = some (EV (.ref D) d a) ∧
  (∀ dd, d = some dd → ∃ fs, H dd = some (.xd fs)) ∧ ExcC K D ∧ (∀ u, RelV c u → u = cv) ∧ PySem.W.kitOne K (.ref D) cv = some b ∧ Q (.bl b) H
theorem call_isV {X : Cx} : CallR X (.builtin "isinstance") (rIsV X.K) := by
  intro pins s σ H xs us Q I r h
  obtain ⟨a, D, d, c, cv, b, rfl, ha, hd, C, hcv, e, q⟩ := h
  cases r with
  | cons rx rr =>
  cases rr with
  | cons rt rr =>
  cases rr
  cases rx
  cases hcv _ rt
  obtain ⟨oe, od, J⟩ := ev_inst I.hok ha hd
  obtain ⟨cd, hc, _⟩ := PySem.W.any_some C.hd
  refine PySem.W.kia_one (PySem.W.kitx_exc (by rw [hc]; rfl) C.hg C.hk C.hs C.ha C.hn C.ht C.hm) I.kIn J e (fun z => nomatch z) ?_
  intro tk
  exact ⟨.bl b, H, I.kept (t' := tk) fun _ _ z => z, rfl, q⟩
/-- e.f, e a kept exception -/
def tFldV (K : PySem.W.Frag) (f : Str) (te : TE) : TE := fun σ H Q => te σ H fun x H1 => ∃ (a C dd : Addr) (fs : List (Str × V)) (v : V), x = .ref a ∧ H1 a = some (EV (.ref C) (some dd) a) ∧ H1 dd = some (.xd fs) ∧
  XfC K C ∧ PySem.W.findIn K (.ref C) f = some none ∧ fs.lookup f = some v ∧ Q v H1
theorem pe_fldV {X : Cx} {e : Expr} {te : TE} {pos : Pos} {n : Str} (he : PE X e te) (hb : attributeBase e n X.env (eval e X.env) = eval e X.env := by rfl) : PE X (.Attribute e n pos) (tFldV X.K n te) := by
  constructor
  intro pins s σ H Q I h
  apply attr_of hb
  refine thn (he.run pins s σ H _ I h) ?_
  rintro u s1 ⟨x, H1, I1, rx, a, C, dd, fs, v, rfl, ha, hdd, T, hno, l, q⟩
  obtain rfl : u = Value.ref a := rx
  obtain ⟨oe, vs, g, z, q3⟩ := ev_at I1.hok ha
  have no : PySem.W.notCls oe = true := by unfold PySem.W.notCls; rw [q3] <;> rfl
  have hx : ObjOk X.prog X.w H1 s1.heap dd (.xd fs) := I1.hok dd _ hdd
  obtain ⟨mA, hns, hr⟩ := hx
  obtain ⟨od, ho, hl⟩ := lookIn_ns hns
  have rn := hr n
  rw [l] at rn
  obtain ⟨u, hu, ru⟩ := RelO.some_of rn
  have J : PySem.W.InstAt s1.heap a oe C (some od) := ⟨g, z.1, no, by rw [z.2]; exact ho⟩
  exact HandSPX.exc_get I1.kIn J T.ga T.gg T.exC (PySem.W.findObj_own T.hdC hno rfl (by rw [hl, hu])) (handed_of ru) ⟨v, H1, I1.tok _, ru, q⟩
/-! ### the head's facts, with own ones -/
def kX (n : Nat) (g : Addr → Option Obj) : PySem.W.Frag := He.frG g (sysModules :: He.asD g n)
def sysB (K : PySem.W.Frag) : Bool := (K.lookup sysModules).isSome
def obX (n : Nat) (cs : List (PySem.W.Frag → Bool)) (fa : List He.Fa) (fn : List He.DefD) (g : Addr → Option Obj) : Bool × He.AlD := (cs.all fun c => c (kX n g), He.obsD fa fn (kX n g))
def hookX (n : Nat) (cs : List (PySem.W.Frag → Bool)) (fa : List He.Fa) (fn : List He.DefD) : PySem.W.Hook where
  α := Bool × He.AlD
  obs := fun s => obX n cs fa fn s.heap.get?
  val := fun _ => (true, He.valD fn)
  says := fun _ h => ∃ K : PySem.W.Frag, K.In h ∧ (cs.all fun c => c K) = true ∧ He.SaysD fa fn K
  of := fun _ _ e => ⟨_, He.frG_in, congrArg (fun z : Bool × He.AlD => z.1) e, congrArg (fun z : Bool × He.AlD => z.2) e⟩
  keeps := fun _ _ _ h k => by
    obtain ⟨K, hK, c⟩ := h
    exact ⟨K, PySem.W.Frag.In.keeps hK k, c⟩
theorem obX_eq {n : Nat} {cs : List (PySem.W.Frag → Bool)} {fa : List He.Fa} {fn : List He.DefD} {g : Addr → Option Obj} {s : Shared} (h : ∀ a, g a = s.heap.get? a) : obX n cs fa fn g = (hookX n cs fa fn).obs s := by
  have e : g = s.heap.get? := funext h
  rw [e] <;> rfl
/-! ### calls whose exceptions are caught or let out -/
theorem passE {P : Program} {w : World} {K : PySem.W.Frag} {mg : Str → Option Value} {base : Heap} {N : List Str} {q : Str} {sc : Scope} {f : Addr} {cd : Value} {A : Around} {o : List Env} {s : Shared} {H : Hp} {E : XK} :
    Passes (L2.CX P w) (cxOf (L2.CX P w) P w K mg base N q sc f cd A o s H E) E := passes_call (W := fun cls d _ H => E cls d H) (takes_of rfl rfl rfl rfl) fun _ _ _ _ h => h
section
variable {X : Cx} {C : CXT} {k : Nat} {f : Addr} {fd : FuncData} {ps : List Str} {sp : Sp} {E : L2.St → XK} {x : Str} {p pos : Pos} {e : Expr} {es : List Expr} {t : TA}
theorem run_gS {pins : List (Addr × Obj)} {σ : L2.St} {H : Hp} {s : Shared} {Q : VK} {us : List Value} {vs : List V}
    (F : GOk X.prog X.w X.K X.mg X.base C k f fd ps sp) (hr : Room k X.A) (hc : Clean X.A) (hb : Binds X.K fd ps []) (hx : PassesAt C X σ (E σ))
    (I : Inv X pins σ H s) (r : Vals vs us) (h : sp vs H Q (E σ)) : wpAny (model X.prog X.w) X.A (call (.ref f) us) (EP X pins σ Q) X.xe s := by
  have len : us.length = ps.length := r.length ▸ F.arity _ _ _ _ h
  have b := hb s us I.kIn (by rw [List.append_nil]; exact len)
  rw [List.append_nil] at b
  refine wpAny_call (codeAny_mono (F.go X.A X.stack s H ⟨us, []⟩ us vs Q (E σ) hr hc I.env0 b r h) ?_)
  rintro (er | fl) s' z
  · exact hx pins H s er s' I z
  · cases fl with
    | ret u => exact I.after z
    | _ => exact z.elim
theorem pe_callGS (F : GOk X.prog X.w X.K X.mg X.base C k f fd ps sp) (hr : Room k X.A) (hc : Clean X.A) (hg : Gl X x) (hm : X.mg x = some (.ref f))
    (hk : PySem.W.keepIn X.K (.ref f) = true) (hb : Binds X.K fd ps []) (hx : ∀ σ, PassesAt C X σ (E σ)) (ha : PA X (e :: es) t)
    (hdb : (x == ("__debug__" : Str)) = false := by decide)
    (he : starEach (e :: es) X.env = (false, eval e X.env) :: starEach es X.env := by rfl)
    (hpl : (backTo pos (starEach es X.env)).any (·.1) = false := by rfl) :
    PE X (.Call (.Name x p) (e :: es) [] pos) (tCallS sp E t) := by
  constructor
  intro pins s σ H Q I h
  refine wpAny_Call_Name_kw (ld_glob I hg hm ?_ hdb)
  refine PySem.W.callWith_K (h₀ := X.base) I.ok.mod.kin hk (thn (ha.run pos pins s σ H _ I h) ?_) he hpl
  rintro us s1 ⟨vs, H1, I1, r, q⟩
  exact ⟨I1.kIn, run_gS F hr hc hb (hx σ) I1 r q⟩
end
/-! ### the classes of errors -/
def errN : Nat → Str
  | 0 => "InvalidOperations" | 1 => "InvalidCuts" | 2 => "InvalidText" | 3 => "CannotDo" | 4 => "TooLarge" | 5 => "TooDeep" | 6 => "OverBudget" | 7 => "InvalidLength" | 8 => "InvalidSlots"
  | 9 => "InvalidRounds" | 10 => "InvalidState" | 11 => "InvalidStep" | 12 => "InvalidNumber" | 13 => "InvalidBudget" | 14 => "InvalidCall" | 15 => "Nothing" | 16 => "InvalidCommand" | _ => "SlotError"
abbrev eC (K : PySem.W.Frag) (i : Nat) : Addr := He.ga K (errN i)
def excCB (K : PySem.W.Frag) (D : Addr) : Bool :=
  decide (PySem.W.findIn K (.ref D) "__getattribute__" = some (some (.builtin "BaseException.__getattribute__"))) && (decide (PySem.W.findIn K (.ref D) "__getattr__" = some none) &&
  (decide (PySem.W.subIn K (.ref D) (.type "BaseException") = some true) && (PySem.W.hasDictIn K D && (decide (PySem.W.findIn K (.ref D) "__class__" = some (some (.builtin "object.__class__"))) &&
  (decide (PySem.W.specialIn K (.builtin "object.__class__") "__get__" = some (some (.builtin "getset_descriptor.__get__"))) && (decide (PySem.W.takesIn K (.builtin "object.__class__") = some true) &&
  decide (PySem.W.mroIn K D (.type "object") = some true)))))))
theorem excCB_ok {K : PySem.W.Frag} {D : Addr} (h : excCB K D = true) : ExcC K D := by
  simp only [excCB, Bool.and_eq_true, decide_eq_true_eq] at h
  obtain ⟨h1, h2, h3, h4, h5, h6, h7, h8⟩ := h
  exact ⟨h1, h2, h3, h4, h5, h6, h7, h8⟩
/-- of one class of errors -/
def errB (K : PySem.W.Frag) (i : Nat) : Bool :=
  decide (PySem.W.nsIn K mainGlobals (errN i) = some (some (.ref (eC K i)))) && PySem.W.keepIn K (.ref (eC K i)) && decide (PySem.W.typeIn K (.ref (eC K i)) = some (.type "type")) && excCB K (eC K i) &&
  decide (PySem.W.kitOne K (.ref (eC K i)) (.type "ValueError") = some true) && decide (PySem.W.exmOne K (.ref (eC K i)) (.ref (eC K 17)) = some true) && decide (PySem.W.kitOne K (.ref (eC K i)) (.ref (eC K 17)) = some true) &&
  decide (i < 7 ∨ PySem.W.excIn K (eC K i) He.veBase "ValueError.__new__" = true)
def errsB (K : PySem.W.Frag) : Bool := (List.range 18).all (errB K) && (List.range 18).all fun i => (List.range 17).all fun j => decide (PySem.W.kitOne K (.ref (eC K i)) (.ref (eC K j)) = some (i == j))
structure Errs (K : PySem.W.Frag) (mg : Str → Option Value) : Prop where
  gl : ∀ i, i < 18 → mg (errN i) = some (.ref (eC K i))
  kp : ∀ i, i < 18 → PySem.W.keepIn K (.ref (eC K i)) = true
  ty : ∀ i, i < 18 → PySem.W.typeIn K (.ref (eC K i)) = some (.type "type")
  xc : ∀ i, i < 18 → ExcC K (eC K i)
  kitV : ∀ i, i < 18 → PySem.W.kitOne K (.ref (eC K i)) (.type "ValueError") = some true
  exm : ∀ i, i < 18 → PySem.W.exmOne K (.ref (eC K i)) (.ref (eC K 17)) = some true
  kitS : ∀ i, i < 18 → PySem.W.kitOne K (.ref (eC K i)) (.ref (eC K 17)) = some true
  tx : ∀ i, i < 18 → 7 ≤ i → PySem.W.excIn K (eC K i) He.veBase "ValueError.__new__" = true
  kit : ∀ i j, i < 18 → j < 17 → PySem.W.kitOne K (.ref (eC K i)) (.ref (eC K j)) = some (i == j)
theorem errs_ok {K : PySem.W.Frag} {h : Heap} {mg : Str → Option Value} (X : K.In h) (G : h.Ns mainGlobals mg) (c : errsB K = true) : Errs K mg := by
  obtain ⟨c1, c2⟩ := Bool.and_eq_true_iff.mp c
  have one : ∀ i, i < 18 → errB K i = true := fun i hi => List.all_eq_true.mp c1 i (List.mem_range.mpr hi)
  have two : ∀ i j, i < 18 → j < 17 → PySem.W.kitOne K (.ref (eC K i)) (.ref (eC K j)) = some (i == j) := fun i j hi hj =>
    of_decide_eq_true (List.all_eq_true.mp (List.all_eq_true.mp c2 i (List.mem_range.mpr hi)) j (List.mem_range.mpr hj))
  have all : ∀ i, i < 18 → PySem.W.nsIn K mainGlobals (errN i) = some (some (.ref (eC K i))) ∧ PySem.W.keepIn K (.ref (eC K i)) = true ∧ PySem.W.typeIn K (.ref (eC K i)) = some (.type "type") ∧ excCB K (eC K i) = true ∧
      PySem.W.kitOne K (.ref (eC K i)) (.type "ValueError") = some true ∧ PySem.W.exmOne K (.ref (eC K i)) (.ref (eC K 17)) = some true ∧ PySem.W.kitOne K (.ref (eC K i)) (.ref (eC K 17)) = some true ∧
      (i < 7 ∨ PySem.W.excIn K (eC K i) He.veBase "ValueError.__new__" = true) := fun i hi => by
    have := one i hi
    simpa only [errB, Bool.and_eq_true, decide_eq_true_eq, and_assoc] using this
  exact ⟨fun i hi => PySem.W.mg_of X G (all i hi).1, fun i hi => (all i hi).2.1, fun i hi => (all i hi).2.2.1, fun i hi => excCB_ok (all i hi).2.2.2.1, fun i hi => (all i hi).2.2.2.2.1, fun i hi => (all i hi).2.2.2.2.2.1,
    fun i hi => (all i hi).2.2.2.2.2.2.1, fun i hi h7 => (all i hi).2.2.2.2.2.2.2.resolve_left (by omega), two⟩
/-- for laws that hold some of the classes alone -/
structure ErrI (K : PySem.W.Frag) (mg : Str → Option Value) (I : List Nat) : Prop where
  gl : ∀ i, i ∈ I → mg (errN i) = some (.ref (eC K i))
  kp : ∀ i, i ∈ I → PySem.W.keepIn K (.ref (eC K i)) = true
  ty : ∀ i, i ∈ I → PySem.W.typeIn K (.ref (eC K i)) = some (.type "type")
  xc : ∀ i, i ∈ I → ExcC K (eC K i)
  exm : ∀ i j, i ∈ I → j ∈ I → PySem.W.exmOne K (.ref (eC K i)) (.ref (eC K j)) = some (i == j || j == 17)
  tx : ∀ i, i ∈ I → 7 ≤ i → PySem.W.excIn K (eC K i) He.veBase "ValueError.__new__" = true
def errIB (I : List Nat) (K : PySem.W.Frag) : Bool := I.all (errB K) && I.all fun i => I.all fun j => decide (PySem.W.exmOne K (.ref (eC K i)) (.ref (eC K j)) = some (i == j || j == 17))
theorem errI_ok {K : PySem.W.Frag} {h : Heap} {mg : Str → Option Value} {I : List Nat} (X : K.In h) (G : h.Ns mainGlobals mg) (c : errIB I K = true) : ErrI K mg I := by
  obtain ⟨c1, c2⟩ := Bool.and_eq_true_iff.mp c
  have all : ∀ i, i ∈ I → PySem.W.nsIn K mainGlobals (errN i) = some (some (.ref (eC K i))) ∧ PySem.W.keepIn K (.ref (eC K i)) = true ∧ PySem.W.typeIn K (.ref (eC K i)) = some (.type "type") ∧ excCB K (eC K i) = true ∧
      PySem.W.kitOne K (.ref (eC K i)) (.type "ValueError") = some true ∧ PySem.W.exmOne K (.ref (eC K i)) (.ref (eC K 17)) = some true ∧ PySem.W.kitOne K (.ref (eC K i)) (.ref (eC K 17)) = some true ∧
      (i < 7 ∨ PySem.W.excIn K (eC K i) He.veBase "ValueError.__new__" = true) := fun i hi => by
    have := List.all_eq_true.mp c1 i hi
    simpa only [errB, Bool.and_eq_true, decide_eq_true_eq, and_assoc] using this
  exact ⟨fun i hi => PySem.W.mg_of X G (all i hi).1, fun i hi => (all i hi).2.1, fun i hi => (all i hi).2.2.1, fun i hi => excCB_ok (all i hi).2.2.2.1,
    fun i j hi hj => of_decide_eq_true (List.all_eq_true.mp (List.all_eq_true.mp c2 i hi) j hj), fun i hi h7 => (all i hi).2.2.2.2.2.2.2.resolve_left (by omega)⟩
theorem isV {K : PySem.W.Frag} {mg : Str → Option Value} (er : Errs K mg) {H : Hp} {a : Addr} {d : Option Addr} {i : Nat} (j : Nat) {Q : VK} (ha : H a = some (EV (.ref (eC K i)) d a)) (hd : ∀ dd, d = some dd → ∃ fs, H dd = some (.xd fs))
    (hi : i < 18) (hj : j < 17) (q : Q (.bl (i == j)) H) : rIsV K [.ref a, .ref (eC K j)] H Q :=
  ⟨a, _, d, _, _, _, rfl, ha, hd, er.xc i hi, fun u r => r, er.kit i j hi hj, q⟩
theorem isVE {K : PySem.W.Frag} {mg : Str → Option Value} (er : Errs K mg) {H : Hp} {a : Addr} {d : Option Addr} {i : Nat} {Q : VK} (ha : H a = some (EV (.ref (eC K i)) d a)) (hd : ∀ dd, d = some dd → ∃ fs, H dd = some (.xd fs))
    (hi : i < 18) (q : Q (.bl true) H) : rIsV K [.ref a, .ty "ValueError"] H Q :=
  ⟨a, _, d, _, _, _, rfl, ha, hd, er.xc i hi, fun u r => r, er.kitV i hi, q⟩
/-! ### data with empty dicts -/
def flat : PyData → Bool
  | .list _ => false
  | .tuple _ => false
  | .dict _ => false
  | _ => true
mutual
inductive Df (K : PySem.W.Frag) (H : Hp) : V → PyData → Prop where
  | dp {v : V} {d : PyData} : flat d = true → Dp K H v d → Df K H v d
  | lst {a : Addr} {xs : List V} {ds : List PyData} : H a = some (.lst xs) → DfAll K H xs ds → Df K H (.ref a) (.list ds)
  | tup {a : Addr} {xs : List V} {ds : List PyData} : H a = some (.tup xs) → DfAll K H xs ds → Df K H (.ref a) (.tuple ds)
  | dct {a : Addr} : H a = some (.dK []) → Df K H (.ref a) (.dict [])
inductive DfAll (K : PySem.W.Frag) (H : Hp) : List V → List PyData → Prop where
  | nil : DfAll K H [] []
  | cons {v : V} {vs : List V} {d : PyData} {ds : List PyData} : Df K H v d → DfAll K H vs ds → DfAll K H (v :: vs) (d :: ds)
end

section
variable {K : PySem.W.Frag} {H H' : Hp}
theorem df_ex (e : Ex H H') : ∀ (d : PyData) (v : V), Df K H v d → Df K H' v d
  | .list ds, _, h => by
    cases h with
    | dp f h => cases f
    | lst h a => exact .lst (e _ _ h) (go ds _ a)
  | .tuple ds, _, h => by
    cases h with
    | dp f h => cases f
    | tup h a => exact .tup (e _ _ h) (go ds _ a)
  | .dict kvs, _, h => by
    cases h with
    | dp f h => cases f
    | dct h => exact .dct (e _ _ h)
  | .none, _, h => by cases h with | dp f h => exact .dp f (dp_ex e _ _ h)
  | .bool _, _, h => by cases h with | dp f h => exact .dp f (dp_ex e _ _ h)
  | .int _, _, h => by cases h with | dp f h => exact .dp f (dp_ex e _ _ h)
  | .str _, _, h => by cases h with | dp f h => exact .dp f (dp_ex e _ _ h)
where go : ∀ (ds : List PyData) (vs : List V), DfAll K H vs ds → DfAll K H' vs ds
  | [], _, h => by cases h; exact .nil
  | d :: ds, _, h => by cases h with | cons h r => exact .cons (df_ex e d _ h) (go ds _ r)
end
section
variable {X : Cx} {pins : List (Addr × Obj)} {σ : L2.St} {H : Hp} {s : Shared}
theorem tr_ne {a : Addr} {o : HO} (I : Inv X pins σ H s) (sy : (X.K.lookup sysModules).isSome = true) (e : H a = some o) : sysModules ≠ a := fun z => by
  obtain ⟨o', ho⟩ := Option.isSome_iff_exists.mp sy
  have := (I.bs _ _ (I.ok.mod.kin _ _ ho)).2
  rw [z, e] at this
  cases this
theorem df_reads (I : Inv X pins σ H s) (sy : (X.K.lookup sysModules).isSome = true) : ∀ (d : PyData) (v : V) (u : Value), Df X.K H v d → RelV v u → ∃ as, Reads s.heap u d as ∧ sysModules ∉ as
  | .list ds, _, _, h, r => by
    cases h with
    | dp f h => cases f
    | lst h a =>
      cases r
      obtain ⟨_, its, n, rv, h1⟩ := (show ObjOk X.prog X.w H s.heap _ (.lst _) from I.hok _ _ h)
      obtain ⟨as, ra, na⟩ := go ds _ its a rv
      exact ⟨_, Reads.list h1 rfl rfl (by simpa using ra), fun z => (List.mem_cons.mp z).elim (tr_ne I sy h) na⟩
  | .tuple ds, _, _, h, r => by
    cases h with
    | dp f h => cases f
    | tup h a =>
      cases r
      obtain ⟨_, its, rv, o, h1, h2, n, h3⟩ := (show ObjOk X.prog X.w H s.heap _ (.tup _) from I.hok _ _ h)
      obtain ⟨as, ra, na⟩ := go ds _ its a rv
      exact ⟨_, Reads.tuple h1 h2 h3 (by simpa using ra), na⟩
  | .dict kvs, _, _, h, r => by
    cases h with
    | dp f h => cases f
    | dct h =>
      cases r
      obtain ⟨_, _, vs, kv, o, es, ep, h1, h2, h3, _, pr, _⟩ := (show ObjOk X.prog X.w H s.heap _ (.dK []) from I.hok _ _ h)
      cases kv
      have e0 : es.toList = [] := by
        cases hh : es.toList with
        | nil => rfl
        | cons x y => rw [hh] at pr; cases pr
      exact ⟨_, Reads.dict (as := []) (bs := []) h1 h2.1 h3 (by rw [e0]; exact .nil) (by rw [e0]; exact .nil), fun z => (List.mem_cons.mp z).elim (tr_ne I sy h) (fun z => nomatch z)⟩
  | .none, _, _, h, r => by cases h with | dp f h => cases h; cases r; exact ⟨_, Reads.none, fun z => nomatch z⟩
  | .bool b, _, _, h, r => by cases h with | dp f h => cases h; cases r; exact ⟨_, Reads.bool b, fun z => nomatch z⟩
  | .int i, _, _, h, r => by cases h with | dp f h => cases h; obtain ⟨t, rfl⟩ := r; exact ⟨_, Reads.int i t, fun z => nomatch z⟩
  | .str x, _, _, h, r => by cases h with | dp f h => cases h; obtain ⟨t, rfl⟩ := r; exact ⟨_, Reads.str x t, fun z => nomatch z⟩
where go : ∀ (ds : List PyData) (vs : List V) (us : List Value), DfAll X.K H vs ds → Vals vs us → ∃ as, ReadsAll s.heap us ds as ∧ sysModules ∉ as
  | [], _, _, h, r => by cases h; cases r; exact ⟨_, .nil, fun z => nomatch z⟩
  | d :: ds, _, _, h, r => by
    cases h with
    | cons h1 h2 =>
    cases r with
    | cons r1 r2 =>
    obtain ⟨as, q1, n1⟩ := df_reads I sy d _ _ h1 r1
    obtain ⟨bs, q2, n2⟩ := go ds _ _ h2 r2
    exact ⟨_, .cons q1 q2, fun z => (List.mem_append.mp z).elim n1 n2⟩
end
/-- a text of at most m signs, at most k deep -/
def Good (k m : Nat) (d : PyData) : Prop := d.showable = true ∧ d.depth ≤ k ∧ d.shown.length ≤ m
theorem good_fine {n : Nat} {d : PyData} (h : fine n d = true) : Good n (sz d) d := by
  obtain ⟨h1, _, h3, h4⟩ := fine_ok d n h
  exact ⟨h1, h3, h4⟩
theorem good_dict {k : Nat} : Good (k + 1) 2 (.dict []) := ⟨by decide +kernel, Nat.le_trans (by decide +kernel : (PyData.dict []).depth ≤ 1) (by omega), by decide +kernel⟩
/-- repr of a new list -/
def rReprF (K : PySem.W.Frag) : List V → Hp → VK → Prop := fun xs H Q => ∃ a ds, xs = [.ref a] ∧ Df K H (.ref a) (.list ds) ∧ Good 20 16000000 (.list ds) ∧ Q (.str (PyData.shown (.list ds))) H
theorem call_repr_F {X : Cx} {k : Nat} (hr : Room k X.A) (hc : Clean X.A) (sy : (X.K.lookup sysModules).isSome = true) : CallR X (.builtin "repr") (rReprF X.K) := by
  intro pins s σ H xs us Q I r h
  obtain ⟨a, ds, rfl, hd, ⟨g1, g2, g3⟩, q⟩ := h
  cases r with
  | cons r0 r1 =>
  cases r1
  obtain ⟨as, rd, na⟩ := df_reads I sy _ _ _ hd r0
  cases r0
  have hu := hr.units
  exact repr_of_reads' rd g1 (fun _ => na) hc (by omega) (fun _ _ z => z) (fun h' u tk kk => ⟨.str _, H, I.kept kk, ⟨_, rfl⟩, q⟩) (by rw [sizeLine_eq]; omega)
theorem good_list {k m : Nat} {ds : List PyData} (h : ∀ d ∈ ds, Good k m d) : Good (k + 1) ((m + 2) * ds.length + 3) (.list ds) := by
  have one : ∀ ds : List PyData, (∀ d ∈ ds, Good k m d) → PyData.showableAll ds = true ∧ PyData.depthAll ds ≤ k ∧ ((PyData.shownAll ds).map (·.length)).sum + 2 * (PyData.shownAll ds).length ≤ (m + 2) * ds.length := by
    intro ds
    induction ds with
    | nil => intro _; exact ⟨rfl, by show 0 ≤ k; omega, by simp [PyData.shownAll]⟩
    | cons d ds ih =>
      intro h
      obtain ⟨a1, a2, a3⟩ := h d (List.mem_cons_self ..)
      obtain ⟨b1, b2, b3⟩ := ih fun d hd => h d (List.mem_cons_of_mem _ hd)
      refine ⟨by simp only [PyData.showableAll, a1, b1, Bool.and_self], by simp only [PyData.depthAll]; omega, ?_⟩
      simp only [PyData.shownAll, List.map_cons, List.sum_cons, List.length_cons]
      rw [show (m + 2) * (ds.length + 1) = (m + 2) * ds.length + (m + 2) by rw [Nat.mul_add, Nat.mul_one]]
      omega
  obtain ⟨c1, c2, c3⟩ := one ds h
  refine ⟨by simpa only [PyData.showable] using c1, by simp only [PyData.depth]; omega, ?_⟩
  have := listText_len_le (PyData.shownAll ds)
  simp only [PyData.shown]
  omega
/-! ### classes of errors with an argument -/
def oexB (K : PySem.W.Frag) (C : Addr) : Bool := match K.lookup C with
  | some ⟨.type "type", _, .cls cd, sl⟩ => (match cd.mro, sl.toList with
    | .ref C' :: bm, [_, _, _, _, some (.builtin n), _] => C' == C && n == "ValueError.__new__" && !cd.hasDel && cd.hasDict && PySem.HandSPX.refsVE bm
    | _, _ => false)
  | _ => false
theorem oexB_ok {K : PySem.W.Frag} {C : Addr} (q : oexB K C = true) : ∃ nm q N bs bm sn sub ab col dd k0 k1 k2 k3 k5, K.lookup C = some (excClassObj nm q C N bs bm true sn sub ab col dd k0 k1 k2 k3 k5 "ValueError.__new__") ∧ PySem.HandSPX.refsVE bm = true := by
  unfold oexB at q
  split at q
  · rename_i dd cd sl ho
    split at q
    · rename_i C' bm k0 k1 k2 k3 n k5 hm hs
      simp only [Bool.and_eq_true, beq_iff_eq, Bool.not_eq_true'] at q
      obtain ⟨⟨⟨⟨rfl, rfl⟩, hdel⟩, hdc⟩, hr⟩ := q
      obtain ⟨nm, bs, mro, ns, qn, hd, sn, sub, ab, col, del⟩ := cd
      dsimp only at hm hdel hdc
      subst hm hdel hdc
      have hsl : sl = #[k0, k1, k2, k3, some (.builtin "ValueError.__new__"), k5] := by
        obtain ⟨l⟩ := sl
        simp only at hs
        rw [hs]
      subst hsl
      exact ⟨nm, qn, ns, bs, bm, sn, sub, ab, col, dd, k0, k1, k2, k3, k5, ho, hr⟩
    · cases q
  · cases q
/-- of a class whose __init__, at fI, keeps its argument in the field f -/
structure InitF (K : PySem.W.Frag) (C fI : Addr) (f : Str) : Prop where
  ox : OexC K C
  no : PySem.W.findIn K (.ref C) f = some none
  ini : PySem.W.findIn K (.ref C) "__init__" = some (some (.ref fI))
  ty : PySem.W.typeIn K (.ref fI) = some (.type "function")
def initB (K : PySem.W.Frag) (i : Nat) (f : Str) : Bool :=
  oexB K (eC K i) && decide (PySem.W.findIn K (.ref (eC K i)) "__setattr__" = some (some (.builtin "object.__setattr__"))) && decide (PySem.W.subIn K (.ref (eC K i)) (.type "BaseException") = some true) &&
  decide (PySem.W.typeIn K (.ref (eC K i)) = some (.type "type")) && PySem.W.keepIn K (.ref (eC K i)) && decide (PySem.W.findIn K (.ref (eC K i)) f = some none) &&
  decide (PySem.W.findIn K (.ref (eC K i)) "__init__" = some (some (.ref (He.ma K (eC K i) "__init__")))) && decide (PySem.W.typeIn K (.ref (He.ma K (eC K i) "__init__")) = some (.type "function"))
theorem initB_ok {K : PySem.W.Frag} {i : Nat} {f : Str} (h : initB K i f = true) : InitF K (eC K i) (He.ma K (eC K i) "__init__") f := by
  simp only [initB, Bool.and_eq_true, decide_eq_true_eq, and_assoc] at h
  obtain ⟨h1, h2, h3, h4, h5, h6, h7, h8⟩ := h
  exact ⟨⟨oexB_ok h1, h2, h3, h4, h5⟩, h6, h7, h8⟩
/-- what such an __init__ promises -/
def spIn (K : PySem.W.Frag) (f : Str) : Sp := fun vs H Q _ => ∃ (a C : Addr) (v : V), vs = [.ref a, v] ∧ OexC K C ∧ PySem.W.findIn K (.ref C) f = some none ∧ H a = some (exo a C none) ∧
  ∀ dx, H dx = none → dx ≠ a → Q .non (upd (upd H dx (exd dx [(f, v)])) a (exo a C (some dx)))
theorem spIn_len {K : PySem.W.Frag} {f : Str} {n : List Str} (hn : n.length = 2) : ∀ vs H Q E, spIn K f vs H Q E → vs.length = n.length := by
  rintro vs H Q E ⟨a, C, v, rfl, _⟩
  exact hn.symm
/-- C(e), the field f holding e -/
def tMkI (C : Addr) (f : Str) (ta : TA) : L2.St → Hp → XK → Prop := fun σ H Q => ta σ H fun vs H1 => ∃ v, vs = [v] ∧ ∀ d, H1 d = none → Q (.ref C) (some d) (upd H1 d (.xd [(f, v)]))
section
variable {X : Cx} {C fI : Addr} {f x : Str} {k : Nat} {fd : FuncData} {n : List Str} {e : Expr} {ta : TA} {p pos : Pos}
theorem pmk_init {ps : List Str} (T : InitF X.K C fI f) (F1 : FnOk X.prog X.w X.K X.mg X.base (L2.CX X.prog X.w) k fI fd ps (spIn X.K f)) (hr : Room (k + 1) X.A) (hb : Binds X.K fd ps []) (hg : Gl X x) (hm : X.mg x = some (.ref C)) (ha : PA X [e] ta)
    (hdb : (x == ("__debug__" : Str)) = false := by decide) (he : starEach [e] X.env = (false, eval e X.env) :: starEach [] X.env := by rfl) :
    PMk X (.Call (.Name x p) [e] [] pos) (tMkI C f ta) := by
  intro pins s σ H Q I h
  have ha2 : PA X [e] (fun σ H R => ∃ R', ta σ H R' ∧ ∀ vs H1, R' vs H1 → R vs H1) := by
    constructor
    rintro pos pins s σ H R I ⟨R', h, i⟩
    refine wpAny_mono (ha.run pos pins s σ H R' I h) ?_ (fun _ _ x => x)
    rintro us s1 ⟨vs, H1, I1, r, q⟩
    exact ⟨vs, H1, I1, r, i _ _ q⟩
  have gen := pmk_oex (p := p) (pos := pos) (CX := L2.CX X.prog X.w) T.ox T.ini T.ty F1 hr hb .nil (passL (X := X)) hg hm ha2 hdb he (by rfl)
  refine gen pins s σ H Q I ⟨_, h, ?_⟩
  rintro vs H1 ⟨v, rfl, q⟩
  refine ⟨by show 1 ≤ 1000; decide, fun a na => ⟨a, C, v, rfl, T.ox, T.no, upd_same, fun dx hdx hne => ⟨rfl, dx, [(f, v)], upd_same, by rw [upd_ne hne, upd_same], ?_, ?_⟩⟩⟩
  · rw [upd_ne hne] at hdx
    exact hdx
  · rw [upd_ne hne] at hdx
    have e2 : upd (del (upd (upd (upd H1 a (exo a C none)) dx (exd dx [(f, v)])) a (exo a C (some dx))) a) dx (HO.xd [(f, v)]) = upd H1 dx (.xd [(f, v)]) := by
      funext b
      by_cases h1 : b = dx
      · rw [h1, upd_same, upd_same]
      · rw [upd_ne h1, upd_ne h1]
        by_cases h2 : b = a
        · rw [h2, del_same, na]
        · rw [del_ne h2, upd_ne h2, upd_ne h1, upd_ne h2]
    rw [e2]
    exact q dx hdx
/-- an error that is made and kept -/
def tMkV (tm : L2.St → Hp → XK → Prop) : TE := fun σ H Q => tm σ H fun cls d H1 => ∀ a, H1 a = none → Q (.ref a) (upd H1 a (EV cls d a))
theorem pe_mkV {e : Expr} {tm : L2.St → Hp → XK → Prop} (he : PMk X e tm) : PE X e (tMkV tm) := by
  constructor
  intro pins s σ H Q I h
  refine thn (he pins s σ H _ I h) ?_
  rintro u s1 ⟨a, oe, vs, sI, H1, cls, d, rfl, J, k, hne, ha, hz, hd, _, na, os, ag, _, q⟩
  refine ⟨.ref a, upd H1 a (EV cls d a), ?_, rfl, q a na⟩
  obtain ⟨hp, g, dr, tk, os'⟩ := s1
  obtain ⟨hp0, g0, dr0, tk0, os0⟩ := sI
  exact J.call' (ch := []) os (Un.laidN k hne na) (J.hok.laidN k na (ev_ok ha hz hd)) ag (fun b z => absurd z (by simp))
end

/-- list + list, each tracked or written -/
def rCatQ (K : PySem.W.Frag) : R2 := fun x y H Q => ∃ l b xs zs, x = .ref l ∧ y = .ref b ∧ SqL K H l xs ∧ SqL K H b zs ∧ xs.length + zs.length ≤ sizeLine ∧ ∀ p, H p = none → Q (.ref p) (upd H p (.lst (xs ++ zs)))
theorem op_catQ {X : Cx} : OpR X (binaryOp .Add) (rCatQ X.K) := by
  intro pins s σ H x y v u Q I rx ry h
  obtain ⟨l, b, xs, zs, rfl, rfl, hH, hB, hz, q⟩ := h
  cases rx
  cases ry
  obtain ⟨its, r, ⟨⟨cls, dd, data, sl⟩, n, ho, hc, _, hd⟩, z⟩ := I.list hH
  obtain ⟨its2, r2, ⟨⟨cls2, dd2, data2, sl2⟩, n2, ho2, hc2, _, hd2⟩, z2⟩ := I.list hB
  simp only at hc hd hc2 hd2
  subst hc hd hc2 hd2
  have l1 := r.length
  have l2 := r2.length
  have ea : its.toArray ++ its2.toArray = (its ++ its2).toArray := by simp
  refine concat_meets ⟨_, ho, rfl⟩ ⟨_, ho2, rfl⟩ noFill_list_add seq_list_add PySem.F.slot_list_add PySem.F.entry_list_add (PySem.F.args_list_add_2 _ _) (list_addW l b its.toArray its2.toArray n n2 dd dd2 sl sl2 (by rw [List.size_toArray, List.size_toArray]; omega)) ⟨ho, ho2, ?_⟩
  rw [ea]
  exact ⟨.ref _, _, I.lnew (t' := s.toks) (r.append r2) (by rw [List.length_append]; omega), rfl, q _ I.fresh⟩
theorem isVS {K : PySem.W.Frag} {mg : Str → Option Value} (er : Errs K mg) {H : Hp} {a : Addr} {d : Option Addr} {i : Nat} {Q : VK} (ha : H a = some (EV (.ref (eC K i)) d a)) (hd : ∀ dd, d = some dd → ∃ fs, H dd = some (.xd fs))
    (hi : i < 18) (q : Q (.bl true) H) : rIsV K [.ref a, .ref (eC K 17)] H Q :=
  ⟨a, _, d, _, _, _, rfl, ha, hd, er.xc i hi, fun u r => r, er.kitS i hi, q⟩
theorem xf_of {K : PySem.W.Frag} {C : Addr} (h : ExcC K C) : XfC K C := ⟨h.hg, h.hk, h.hs, h.hd⟩

/-! loops over enumerate, zip -/
section
variable {K : PySem.W.Frag} {σ : L2.St} {H : Hp} {ta : TA} {tb : TS} {g : TG} {D : Ends} {a b : Addr} {xs ys : List V}
def ForJ (J : It) (g : TG) (tb : TS) (D : Ends) (σ : L2.St) (H1 : Hp) : Prop := ∃ W : Nat → Nat → L2.St → Hp → Prop, (∃ m, W 0 m σ H1) ∧ ∀ i m σ H, W i m σ H →
  (J.stop i H ∧ D.nx σ H) ∨ (J.go i H ∧ ∃ N : L2.St → Hp → Prop, (∀ σ' H', N σ' H' → ∃ m', m' < m ∧ W (i + 1) m' σ' H') ∧ ∀ x H', J.yld i H x H' → g x σ H' fun σ2 H2 => tb { D with nx := N, ct := N, bk := D.nx } σ2 H2)
theorem tFor_enum : tFor (iEnum K ta) g tb D σ H = ta σ H fun us H1 => ∃ a xs, us = [.ref a] ∧ SqL K H1 a xs ∧ ForJ (Ite K a) g tb D σ H1 := rfl
theorem forE_in (Pv : Nat → L2.St → Hp → Prop) (h0 : Pv 0 σ H) (hl : ∀ i σ' H', i ≤ xs.length → Pv i σ' H' → SqL K H' a xs) (hd : ∀ σ H, Pv xs.length σ H → D.nx σ H)
    (hs : ∀ (i : Nat) x T σ H, xs[i]? = some x → Pv i σ H → H T = none → g (.ref T) σ (upd H T (.tup [.int (i : Nat), x])) fun σ2 H2 => tb { D with nx := Pv (i + 1), ct := Pv (i + 1), bk := D.nx } σ2 H2) : ForJ (Ite K a) g tb D σ H := by
  refine for_it walk_enum Pv h0 hl ?_ hd
  rintro i x σ H H' hi p ⟨T, x1, y1, rfl, hT, rfl, h1, h2⟩
  cases h1
  exact hs i y1 T σ H h2 p hT
end
end Bs

namespace Bs
open PySem PySem.Spec PyProof.Rows L2
open Evl (Ex)
/-! ### match over words -/
def PCase (X : Cx) (cs : List MatchCase) (t : Str → TS) : Prop := ∀ (first : Bool) (pins : List (Addr × Obj)) (s : Shared) (σ : L2.St) (H : Hp) (D : Ends) (z : Str) (v : Value), Inv X pins σ H s → RelV (.str z) v → t z D σ H →
  wpAny (model X.prog X.w) X.A (matchCases cs X.env v first) (SP X pins D) X.xe s
def tCase (w : Str) (a : TS) (b : Str → TS) : Str → TS := fun z D σ H => if z = w then a D σ H else b z D σ H
def tMatch (te : TE) (t : Str → TS) : TS := fun D σ H => te σ H fun x H1 => ∃ z, x = .str z ∧ t z D σ H1
section
variable {X : Cx} {body : List Stmt} {rest : List MatchCase} {tb : TS} {t : Str → TS} {w : Str} {j : Nat} {p pos : Pos} {e : Expr} {te : TE} {cs : List MatchCase}
theorem pc_nil : PCase X [] fun _ D σ H => D.nx σ H := by
  intro first pins s σ H D z v I r h
  exact wpAny_matchCases_nil ⟨σ, H, I, h⟩
theorem pc_any (hb : PSs X body tb) : PCase X [⟨.MatchAs none none pos, none, body⟩] fun _ => tb := by
  intro first pins s σ H D z v I r h
  refine wpAny_matchCases_cons (wpAny_matchPattern_Capture ?_)
  show wpAny _ _ (assignInOrder [] []) _ _ _
  exact wpAny_pure (hb.run pins s σ H D I h)
theorem pc_word (hb : PSs X body tb) (hr : PCase X rest t) : PCase X (⟨.MatchValue (.Constant (.str w) j p) pos, none, body⟩ :: rest) (tCase w tb t) := by
  intro first pins s σ H D z v I r h
  refine wpAny_matchCases_cons (wpAny_matchPattern_Value ?_)
  have one := (pe_str (X := X) (x := w) (j := j) (pos := p)).run pins s σ H (fun y H1 => y = .str w ∧ H1 = H) I ⟨rfl, rfl⟩
  refine wpAny_mono one ?_ (fun _ _ x => x)
  rintro u s1 ⟨y, H1, I1, r1, rfl, rfl⟩
  have two := op_eq pins s1 σ H1 (.str z) (.str w) v u (fun y H2 => y = .bl (decide (z = w)) ∧ H2 = H1) I1 r r1 ⟨rfl, by simp⟩
  refine wpAny_mono two ?_ (fun _ _ x => x)
  rintro c s2 ⟨y, H2, I2, r2, rfl, rfl⟩
  cases r2
  refine wpAny_truthy_bool ?_
  unfold tCase at h
  by_cases hz : z = w
  · rw [if_pos hz] at h
    rw [decide_eq_true hz]
    show wpAny _ _ (assignInOrder [] []) _ _ _
    exact wpAny_pure (hb.run pins s2 σ H2 D I2 h)
  · rw [if_neg hz] at h
    rw [decide_eq_false hz]
    exact hr false pins s2 σ H2 D z v I2 r h
theorem ps_match (he : PE X e te) (hc : PCase X cs t) : PS X (.Match e cs pos) (tMatch te t) := by
  constructor
  intro pins s σ H D I h
  apply wpAny_Match
  refine wpAny_mono (he.run pins s σ H _ I h) ?_ (fun _ _ x => x)
  rintro v s1 ⟨y, H1, I1, r, z, rfl, q⟩
  exact hc true pins s1 σ H1 D z v I1 r q
end
/-! ### defs of properties -/
def gA (K : PySem.W.Frag) (c f : Str) : Addr := match PySem.W.recIn K (He.ma K (He.ga K c) f) "property" with
  | some (.ref g :: _) => g
  | _ => 0
def fnA (K : PySem.W.Frag) (a : Addr) : He.FnW := match K.lookup a with
  | some ⟨_, _, .func fd, _⟩ => some (fd.name, fd.qualname, fd.params, fd.body, fd.scope, fd.globals, fd.closure, fd.builtins)
  | _ => none
def okA (K : PySem.W.Frag) (a : Addr) (q : Str) : Bool := PySem.W.keepIn K (.ref a) && (match K.lookup a with
  | some ⟨_, _, .func fd, _⟩ => PySem.W.codeIn K fd.code q && (He.dflB K fd.defaults [] && He.kwdB K fd.kwdefaults [])
  | _ => false)
theorem fun_at {K : PySem.W.Frag} {d : He.DefD} {a : Addr} (e : fnA K a = d.val) (c : okA K a d.qual = true) : ∃ fd, FunD K d.name d.qual d.params d.body d.scope [] [] a fd := by
  obtain ⟨kp, c2⟩ := Bool.and_eq_true_iff.mp c
  unfold fnA at e
  generalize hl : K.lookup a = lo at c2 e
  cases lo with
  | none => cases c2
  | some o =>
    obtain ⟨oc, od, dt, osl⟩ := o
    cases dt
    case func fd =>
      obtain ⟨n1, n2, n3, n4, n5, n6, n7, n8, n9, n10, n11, n12, n13, n14, n15⟩ := fd
      have e2 : (some (n1, n2, n3, n4, n5, n6, n7, n15) : He.FnW) = some (d.name, d.qual, d.params, .stmts d.body, d.scope, mainGlobals, [], builtinsNs) := e
      simp only [Option.some.injEq, Prod.mk.injEq] at e2
      obtain ⟨h1, h2, h3, h4, h5, h6, h7, h8⟩ := e2
      subst h1 h2 h3 h4 h5 h6 h7 h8
      have c3 : (PySem.W.codeIn K n13 d.qual && (He.dflB K n8 [] && He.kwdB K n9 [])) = true := c2
      simp only [Bool.and_eq_true] at c3
      exact ⟨_, ⟨oc, od, n8, n9, n10, n11, n12, n13, n14, osl, rfl, hl, c3.1, He.dflB_ok c3.2.1, He.kwdB_ok c3.2.2⟩, kp⟩
    all_goals cases c2
/-- class, name, def -/
abbrev PropD : Type := Str × Str × He.DefD
def propB (K : PySem.W.Frag) (q : PropD) : Bool :=
  decide (PySem.W.findIn K (.ref (He.ga K q.1)) q.2.1 = some (some (.ref (He.ma K (He.ga K q.1) q.2.1)))) && decide (PySem.W.specialIn K (.ref (He.ma K (He.ga K q.1) q.2.1)) "__get__" = some (some (.builtin "property.__get__"))) &&
  decide (PySem.W.takesIn K (.ref (He.ma K (He.ga K q.1) q.2.1)) = some true) && (match PySem.W.recIn K (He.ma K (He.ga K q.1) q.2.1) "property" with
    | some (.ref _ :: _) => true
    | _ => false) && okA K (gA K q.1 q.2.1) q.2.2.qual
theorem propB_ok {K : PySem.W.Frag} {q : PropD} (h : propB K q = true) : PropOf K (He.ga K q.1) q.2.1 (He.ma K (He.ga K q.1) q.2.1) (gA K q.1 q.2.1) ∧ okA K (gA K q.1 q.2.1) q.2.2.qual = true := by
  simp only [propB, Bool.and_eq_true, decide_eq_true_eq, and_assoc] at h
  obtain ⟨h1, h2, h3, h4, h5⟩ := h
  refine ⟨⟨h1, h2, h3, ?_⟩, h5⟩
  unfold gA
  generalize PySem.W.recIn K (He.ma K (He.ga K q.1) q.2.1) "property" = r at *
  cases r with
  | none => cases h4
  | some l =>
    cases l with
    | nil => cases h4
    | cons v l =>
      cases v
      case ref g => exact ⟨l, rfl⟩
      all_goals cases h4
/-! ### the head's facts, with properties too -/
def obP (n : Nat) (cs : List (PySem.W.Frag → Bool)) (ps : List PropD) (fa : List He.Fa) (fn : List He.DefD) (g : Addr → Option Obj) : Bool × He.AlD × List He.FnW :=
  ((cs.all fun c => c (kX n g)) && ps.all (propB (kX n g)), He.obsD fa fn (kX n g), ps.map fun q => fnA (kX n g) (gA (kX n g) q.1 q.2.1))
def valP (ps : List PropD) (fn : List He.DefD) : Bool × He.AlD × List He.FnW := (true, He.valD fn, ps.map fun q => q.2.2.val)
structure SaysP (cs : List (PySem.W.Frag → Bool)) (ps : List PropD) (fa : List He.Fa) (fn : List He.DefD) (K : PySem.W.Frag) : Prop where
  cs : (cs.all fun c => c K) = true
  pb : ps.all (propB K) = true
  pv : (ps.map fun q => fnA K (gA K q.1 q.2.1)) = ps.map fun q => q.2.2.val
  d : He.SaysD fa fn K
def hookP (n : Nat) (cs : List (PySem.W.Frag → Bool)) (ps : List PropD) (fa : List He.Fa) (fn : List He.DefD) : PySem.W.Hook where
  α := Bool × He.AlD × List He.FnW
  obs := fun s => obP n cs ps fa fn s.heap.get?
  val := fun _ => valP ps fn
  says := fun _ h => ∃ K : PySem.W.Frag, K.In h ∧ SaysP cs ps fa fn K
  of := fun _ _ e => by
    have e1 := congrArg (fun z : Bool × He.AlD × List He.FnW => z.1) e
    obtain ⟨a, b⟩ := Bool.and_eq_true_iff.mp e1
    exact ⟨_, He.frG_in, a, b, congrArg (fun z : Bool × He.AlD × List He.FnW => z.2.2) e, congrArg (fun z : Bool × He.AlD × List He.FnW => z.2.1) e⟩
  keeps := fun _ _ _ h k => by
    obtain ⟨K, hK, c⟩ := h
    exact ⟨K, PySem.W.Frag.In.keeps hK k, c⟩
theorem obP_eq {n : Nat} {cs : List (PySem.W.Frag → Bool)} {ps : List PropD} {fa : List He.Fa} {fn : List He.DefD} {g : Addr → Option Obj} {s : Shared} (h : ∀ a, g a = s.heap.get? a) : obP n cs ps fa fn g = (hookP n cs ps fa fn).obs s := by
  have e : g = s.heap.get? := funext h
  rw [e] <;> rfl
theorem SaysP.prop {cs : List (PySem.W.Frag → Bool)} {ps : List PropD} {fa : List He.Fa} {fn : List He.DefD} {K : PySem.W.Frag} (c : SaysP cs ps fa fn K) (i : Nat) {q : PropD} (h : ps[i]? = some q := by rfl) :
    PropOf K (He.ga K q.1) q.2.1 (He.ma K (He.ga K q.1) q.2.1) (gA K q.1 q.2.1) ∧ ∃ fd, FunD K q.2.2.name q.2.2.qual q.2.2.params q.2.2.body q.2.2.scope [] [] (gA K q.1 q.2.1) fd := by
  obtain ⟨p, o⟩ := propB_ok (List.all_eq_true.mp c.pb q (List.mem_of_getElem? h))
  have e2 : (ps.map fun q => fnA K (gA K q.1 q.2.1))[i]? = (ps.map fun q => q.2.2.val)[i]? := by rw [c.pv]
  rw [List.getElem?_map, List.getElem?_map, h] at e2
  exact ⟨p, fun_at (Option.some.inj e2) o⟩
/-- a def that minds no repr is one where none is under way -/
theorem gok_fn {P : Program} {w : World} {K : PySem.W.Frag} {mg : Str → Option Value} {base : Heap} {C : CXT} {k : Nat} {f : Addr} {fd : FuncData} {ps : List Str} {sp : Sp} (F : FnOk P w K mg base C k f fd ps sp) : GOk P w K mg base C k f fd ps sp :=
  ⟨F.len, fun A fr s H args us vs Q E r _ e b v q => F.run A fr s H args us vs Q E r e b v q⟩
/-- e.f in an except suite, e a kept exception -/
theorem pe_fldS {X : Cx} {a : Addr} {pn : List (Addr × Obj)} {e : Expr} {te : TE} {pos : Pos} {n : Str} (he : PE (X.suite a pn) e te) (hb : attributeBase e n X.env (eval e X.env) = eval e X.env := by rfl) :
    PE (X.suite a pn) (.Attribute e n pos) (tFldV X.K n te) := pe_fldV he hb
end Bs

namespace Bs
open PySem PySem.Spec PyProof.Rows L2
open Evl (Ex)
/-! ### methods of one of several classes -/
def tMethD (D : Addr → Prop) (m : Str) (sp : Sp) (E : XK) (ta : TE) (t : TA) : TE := fun σ H Q => ta σ H fun x H1 => ∃ a C dx fs, x = .ref a ∧ H1 a = some (.ins C dx fs) ∧ D C ∧ fs.lookup m = none ∧ t σ H1 fun vs H2 => sp (x :: vs) H2 Q E
def tMethDS (D : Addr → Prop) (m : Str) (sp : Sp) (E : L2.St → XK) (ta : TE) (t : TA) : TE := fun σ H Q => ta σ H fun x H1 => ∃ a C dx fs, x = .ref a ∧ H1 a = some (.ins C dx fs) ∧ D C ∧ fs.lookup m = none ∧ t σ H1 fun vs H2 => sp (x :: vs) H2 Q (E σ)
def tPropD (D : Addr → Prop) (sp : Sp) (E : XK) (ta : TE) : TE := fun σ H Q => ta σ H fun x H1 => ∃ a C dx fs, x = .ref a ∧ H1 a = some (.ins C dx fs) ∧ D C ∧ sp [x] H1 Q E
section
variable {X : Cx} {D : Addr → Prop} {CX : CXT} {k : Nat} {f : Addr} {fd : FuncData} {ps : List Str} {sp : Sp} {E : XK} {ES : L2.St → XK} {m : Str} {o e : Expr} {es : List Expr} {ta : TE} {t : TA} {pos apos : Pos}
theorem pe_methD {pl : Sem Bool} (he : PE X o ta) (cm : ∀ C, D C → Cls X.K C ∧ Meth X.K C m f) (F : FnOk X.prog X.w X.K X.mg X.base CX k f fd ps sp) (hr : Room k X.A) (hb : Binds X.K fd ps []) (hx : Passes CX X E) (ha : PA X (e :: es) t)
    (hst : starEach (e :: es) X.env = (false, eval e X.env) :: starEach es X.env := by rfl) (hpl : (backTo pos (starEach es X.env)).any (·.1) = false := by rfl)
    (ht : eval (.Call (.Attribute o m apos) (e :: es) [] pos) X.env = (do
      let ov ← eval o X.env
      standAt apos.atName
      let (f, first) ← holding [ov] (getMethod ov m pl)
      callWith pos f first (backTo pos (starEach (e :: es) X.env)) (backToKw pos (keywordEach [] X.env))) := by rfl) :
    PE X (.Call (.Attribute o m apos) (e :: es) [] pos) (tMethD D m sp E ta t) := by
  refine ⟨fun pins s σ H Q I h => ?_⟩
  refine PySem.W.methodCall_KW (pl := pl) (thn (he.run pins s σ H _ I h) fun u s1 ⟨x, H1, I1, rx, a, C, dx, fs, ex, ea, hC, l, q⟩ => ?_) ht
  subst ex
  obtain rfl : u = Value.ref a := rx
  obtain ⟨c, hm⟩ := cm C hC
  refine getmeth_ok I1 ea c hm l ?_
  refine PySem.W.callWith_K (first := [.ref a]) (h₀ := X.base) I.ok.mod.kin hm.kp (thn (ha.run pos pins s1 σ H1 _ I1 q) fun us s2 ⟨vs, H2, I2, r, q2⟩ => ⟨I2.kIn, ?_⟩) hst hpl
  exact run_fn (dvs := []) (ds := []) (us := .ref a :: us) (vs := .ref a :: vs) F hr hb .nil hx I2 (.cons rfl r) (by rw [List.append_nil]; exact q2)
theorem pe_meth0D {pl : Sem Bool} (he : PE X o ta) (cm : ∀ C, D C → Cls X.K C ∧ Meth X.K C m f) (F : FnOk X.prog X.w X.K X.mg X.base CX k f fd ps sp) (hr : Room k X.A) (hb : Binds X.K fd ps []) (hx : Passes CX X E)
    (ht : eval (.Call (.Attribute o m apos) [] [] pos) X.env = (do
      let ov ← eval o X.env
      standAt apos.atName
      let (f, first) ← holding [ov] (getMethod ov m pl)
      callWith pos f first (backTo pos (starEach [] X.env)) (backToKw pos (keywordEach [] X.env))) := by rfl) :
    PE X (.Call (.Attribute o m apos) [] [] pos) (tMethD D m sp E ta tNil) := by
  refine ⟨fun pins s σ H Q I h => ?_⟩
  refine PySem.W.methodCall_KW (pl := pl) (thn (he.run pins s σ H _ I h) fun u s1 ⟨x, H1, I1, rx, a, C, dx, fs, ex, ea, hC, l, q⟩ => ?_) ht
  subst ex
  obtain rfl : u = Value.ref a := rx
  obtain ⟨c, hm⟩ := cm C hC
  refine getmeth_ok I1 ea c hm l ?_
  exact PySem.W.callWith_K0 (first := [.ref a]) I1.kIn hm.kp (run_fn (dvs := []) (ds := []) (us := [.ref a]) (vs := [.ref a]) F hr hb .nil hx I1 (.cons rfl .nil) q)
/-- the callee runs, what it raises wished for at the caller's slots -/
theorem run_fS {pins : List (Addr × Obj)} {σ : L2.St} {H : Hp} {s : Shared} {Q : VK} {us : List Value} {vs : List V}
    (F : FnOk X.prog X.w X.K X.mg X.base CX k f fd ps sp) (hr : Room k X.A) (hb : Binds X.K fd ps []) (hx : PassesAt CX X σ (ES σ))
    (I : Inv X pins σ H s) (r : Vals vs us) (h : sp vs H Q (ES σ)) : wpAny (model X.prog X.w) X.A (call (.ref f) us) (EP X pins σ Q) X.xe s := by
  have len : us.length = ps.length := r.length ▸ F.len _ _ _ _ h
  have b := hb s us I.kIn (by rw [List.append_nil]; exact len)
  rw [List.append_nil] at b
  refine wpAny_call (codeAny_mono (F.run X.A X.stack s H ⟨us, []⟩ us vs Q (ES σ) hr I.env0 b r h) ?_)
  rintro (er | fl) s' z
  · exact hx pins H s er s' I z
  · cases fl with
    | ret u => exact I.after z
    | _ => exact z.elim
theorem pe_methDS {pl : Sem Bool} (he : PE X o ta) (cm : ∀ C, D C → Cls X.K C ∧ Meth X.K C m f) (F : FnOk X.prog X.w X.K X.mg X.base CX k f fd ps sp) (hr : Room k X.A) (hb : Binds X.K fd ps []) (hx : ∀ σ, PassesAt CX X σ (ES σ)) (ha : PA X (e :: es) t)
    (hst : starEach (e :: es) X.env = (false, eval e X.env) :: starEach es X.env := by rfl) (hpl : (backTo pos (starEach es X.env)).any (·.1) = false := by rfl)
    (ht : eval (.Call (.Attribute o m apos) (e :: es) [] pos) X.env = (do
      let ov ← eval o X.env
      standAt apos.atName
      let (f, first) ← holding [ov] (getMethod ov m pl)
      callWith pos f first (backTo pos (starEach (e :: es) X.env)) (backToKw pos (keywordEach [] X.env))) := by rfl) :
    PE X (.Call (.Attribute o m apos) (e :: es) [] pos) (tMethDS D m sp ES ta t) := by
  refine ⟨fun pins s σ H Q I h => ?_⟩
  refine PySem.W.methodCall_KW (pl := pl) (thn (he.run pins s σ H _ I h) fun u s1 ⟨x, H1, I1, rx, a, C, dx, fs, ex, ea, hC, l, q⟩ => ?_) ht
  subst ex
  obtain rfl : u = Value.ref a := rx
  obtain ⟨c, hm⟩ := cm C hC
  refine getmeth_ok I1 ea c hm l ?_
  refine PySem.W.callWith_K (first := [.ref a]) (h₀ := X.base) I.ok.mod.kin hm.kp (thn (ha.run pos pins s1 σ H1 _ I1 q) fun us s2 ⟨vs, H2, I2, r, q2⟩ => ⟨I2.kIn, ?_⟩) hst hpl
  exact run_fS (us := .ref a :: us) (vs := .ref a :: vs) F hr hb (hx σ) I2 (.cons rfl r) q2
theorem pe_meth0DS {pl : Sem Bool} (he : PE X o ta) (cm : ∀ C, D C → Cls X.K C ∧ Meth X.K C m f) (F : FnOk X.prog X.w X.K X.mg X.base CX k f fd ps sp) (hr : Room k X.A) (hb : Binds X.K fd ps []) (hx : ∀ σ, PassesAt CX X σ (ES σ))
    (ht : eval (.Call (.Attribute o m apos) [] [] pos) X.env = (do
      let ov ← eval o X.env
      standAt apos.atName
      let (f, first) ← holding [ov] (getMethod ov m pl)
      callWith pos f first (backTo pos (starEach [] X.env)) (backToKw pos (keywordEach [] X.env))) := by rfl) :
    PE X (.Call (.Attribute o m apos) [] [] pos) (tMethDS D m sp ES ta tNil) := by
  refine ⟨fun pins s σ H Q I h => ?_⟩
  refine PySem.W.methodCall_KW (pl := pl) (thn (he.run pins s σ H _ I h) fun u s1 ⟨x, H1, I1, rx, a, C, dx, fs, ex, ea, hC, l, q⟩ => ?_) ht
  subst ex
  obtain rfl : u = Value.ref a := rx
  obtain ⟨c, hm⟩ := cm C hC
  refine getmeth_ok I1 ea c hm l ?_
  exact PySem.W.callWith_K0 (first := [.ref a]) I1.kIn hm.kp (run_fS (us := [.ref a]) (vs := [.ref a]) F hr hb (hx σ) I1 (.cons rfl .nil) q)
theorem pe_propD {g : Addr} (he : PE X e ta) (cm : ∀ C, D C → Cls X.K C ∧ ∃ p, PropOf X.K C m p g) (F : FnOk X.prog X.w X.K X.mg X.base CX k g fd ps sp) (hr : Room (k + 1) X.A) (hb : Binds X.K fd ps []) (hx : Passes CX X.nox E)
    (hab : attributeBase e m X.env (eval e X.env) = eval e X.env) : PE X (.Attribute e m pos) (tPropD D sp E ta) := by
  refine ⟨fun pins s σ H Q I h => ?_⟩
  refine attr_of hab (thn (he.run pins s σ H _ I h) fun u s1 ⟨x, H1, I1, rx, a, C, dx, fs, ex, ea, hC, q⟩ => ?_)
  subst ex
  obtain rfl : u = Value.ref a := rx
  obtain ⟨c, p, hp⟩ := cm C hC
  exact getprop_ok I1 ea c hp F hr hb .nil hx q
end
/-! ### == by an own __eq__ -/
def rEqI (K : PySem.W.Frag) (D : Addr → Prop) (sp : Sp) (E : XK) : R2 := fun x y H Q => ∃ a C dx fs tb, x = .ref a ∧ H a = some (.ins C dx fs) ∧ D C ∧ TyX K H y tb ∧ PySem.W.notFirst K C tb = true ∧ sp [.ref a, y] H (fun v H' => ∃ b, v = .bl b ∧ Q (.bl b) H') E
theorem op_eqI {X : Cx} {D : Addr → Prop} {CX : CXT} {n : Nat} {f : Addr} {fd : FuncData} {ps : List Str} {sp : Sp} {E : XK} (F : FnOk X.prog X.w X.K X.mg X.base CX n f fd ps sp) (hr : Room n X.A) (hm : ∀ C, D C → Meth X.K C "__eq__" f) (hb : Binds X.K fd ps []) (hx : Passes CX X E) :
    OpR X (compareOp .Eq) (rEqI X.K D sp E) := by
  intro pins s σ H x y v u Q I rx ry h
  obtain ⟨a, C, dx, fs, tb, rfl, ha, hC, ty, hn, hq⟩ := h
  cases rx
  obtain ⟨P, Z, hP, _⟩ := kit_of I ry ty
  obtain ⟨mA, J, _⟩ := ins_get I.hok ha
  obtain ⟨od, J, _⟩ := J.look
  obtain ⟨m, hF⟩ := I.fr
  have M := hm C hC
  show wpAny (model X.prog X.w) X.A (richCompare .Eq _ u) (EP X pins σ Q) X.xe s
  refine PySem.W.cmp_K (op := .Eq) (tb := tb) hr.units0 hF I.ok.mod.kin J (Z.ty _ _ I.kIn hP) hn M.at_ M.fn ?_
  have r2 : Vals [V.ref a, y] [Value.ref a, u] := .cons rfl (.cons ry .nil)
  have hl := F.len _ _ _ _ hq
  refine wpAny_call (codeAny_mono (F.run X.A X.stack s H ⟨[.ref a, u], []⟩ [.ref a, u] [.ref a, y] _ E hr I.env0 (by
    have := hb s [.ref a, u] I.kIn (by simpa using hl)
    simpa using this) r2 hq) fun r s' z => ?_)
  cases r with
  | error e => exact hx pins σ H s e s' I z
  | ok fl =>
    cases fl with
    | ret w =>
      obtain ⟨z, H', I', rz, b, ez, q⟩ := I.after z
      subst ez
      cases rz
      exact ⟨.bl b, H', I', rfl, q⟩
    | next => exact False.elim z
    | brk => exact False.elim z
    | cont => exact False.elim z
end Bs

namespace Bs
open PySem PySem.Spec PyProof.Rows L2
open Evl (Ex)
/-! ### dicts of the module with text keys -/
def relEB (K : PySem.W.Frag) (e : DictEntry) (q : Str × He.Dv) : Bool := (match e.key with
  | .str x _ => decide (x = q.1)
  | _ => false) && He.relB (q.2.v K) e.val
def relLB (K : PySem.W.Frag) : List DictEntry → List (Str × He.Dv) → Bool
  | [], [] => true
  | e :: r, q :: t => relEB K e q && relLB K r t
  | _, _ => false
def vdB (K : PySem.W.Frag) (a : Addr) (kvs : List (Str × He.Dv)) : Bool := match K.lookup a with
  | some ⟨_, _, .dict es _, _⟩ => relLB K es.toList kvs
  | _ => false
def nsL (l : List DictEntry) (z : Str) : Option (Option Value) := match l.find? (·.key.isStr z) with
  | some e => some (some e.val)
  | none => if l.any (·.refKey) then none else some none
theorem relE_ok {K : PySem.W.Frag} {e : DictEntry} {q : Str × He.Dv} (h : relEB K e q = true) : (∃ t, e.key = .str q.1 t) ∧ RelV (q.2.v K) e.val := by
  unfold relEB at h
  obtain ⟨h1, h2⟩ := Bool.and_eq_true_iff.mp h
  refine ⟨?_, He.relB_ok h2⟩
  cases k : e.key with
  | str x t =>
    rw [k] at h1
    exact ⟨t, by rw [of_decide_eq_true h1]⟩
  | _ => rw [k] at h1; cases h1
theorem nsL_ok {K : PySem.W.Frag} (z : Str) : ∀ {l : List DictEntry} {kvs : List (Str × He.Dv)}, relLB K l kvs = true → ∃ r, nsL l z = some r ∧ RelO ((kvs.map fun q => (q.1, q.2.v K)).lookup z) r ∧ l.any (·.refKey) = false
  | [], [], _ => ⟨none, rfl, trivial, rfl⟩
  | [], _ :: _, h => by cases h
  | _ :: _, [], h => by cases h
  | e :: l, q :: kvs, h => by
    obtain ⟨h1, h2⟩ := Bool.and_eq_true_iff.mp (show (relEB K e q && relLB K l kvs) = true from h)
    obtain ⟨⟨t, ek⟩, rv⟩ := relE_ok h1
    obtain ⟨r, e1, e2, e3⟩ := nsL_ok z h2
    have nr : e.refKey = false := by unfold DictEntry.refKey; rw [ek]
    have isz : e.key.isStr z = (q.1 == z) := by rw [ek]; rfl
    have an : (e :: l).any (·.refKey) = false := by rw [List.any_cons, nr, e3]; rfl
    by_cases c : z = q.1
    · subst c
      refine ⟨some e.val, ?_, ?_, an⟩
      · unfold nsL
        rw [List.find?_cons_of_pos (by rw [isz]; exact beq_self_eq_true q.1)]
      · rw [List.map_cons, List.lookup_cons, beq_self_eq_true]
        exact rv
    · refine ⟨r, ?_, ?_, an⟩
      · have z1 : (q.1 == z) = false := beq_eq_false_iff_ne.mpr (Ne.symm c)
        unfold nsL at e1 ⊢
        rw [List.find?_cons_of_neg (by rw [isz, z1]; decide), an]
        rw [e3] at e1
        exact e1
      · have z1 : (z == q.1) = false := beq_eq_false_iff_ne.mpr c
        rw [List.map_cons, List.lookup_cons, z1]
        exact e2
/-- a dict of the module: what it holds at each text -/
def WordD (K : PySem.W.Frag) (w : World) (d : Addr) (kvs : List (Str × V)) : Prop := (∃ es n, KDict K w d es n) ∧ ∀ z, ∃ r, PySem.W.nsIn K d z = some r ∧ RelO (kvs.lookup z) r
theorem wordD_ok {K : PySem.W.Frag} {w : World} {d : Addr} {kvs : List (Str × He.Dv)} (h : ∃ es n, KDict K w d es n) (v : vdB K d kvs = true) : WordD K w d (kvs.map fun q => (q.1, q.2.v K)) := by
  refine ⟨h, fun z => ?_⟩
  obtain ⟨es, n, D⟩ := h
  unfold vdB at v
  rw [D.at_] at v
  obtain ⟨r, e1, e2, _⟩ := nsL_ok z v
  refine ⟨r, ?_, e2⟩
  unfold PySem.W.nsIn
  rw [D.at_]
  exact e1
section
variable {X : Cx} {d : Addr} {kvs : List (Str × V)}
theorem relO_some {o : Option V} {r : Option Value} (h : RelO o r) : r.isSome = o.isSome := by
  cases o <;> cases r <;> first | rfl | cases h
theorem op_in_wd (D : WordD X.K X.w d kvs) : OpR X (compareOp .In) (fun x y H Q => ∃ z, x = .str z ∧ y = .ref d ∧ Q (.bl (kvs.lookup z).isSome) H) := by
  obtain ⟨⟨es, n, kd⟩, hv⟩ := D
  intro pins s σ H x y v u Q I rx ry ⟨z, e1, e2, q⟩
  obtain ⟨r, n1, n2⟩ := hv z
  exact op_in_kd kd pins s σ H x y v u Q I rx ry ⟨z, r, e1, e2, n1, by rw [relO_some n2]; exact q⟩
theorem op_notIn_wd (D : WordD X.K X.w d kvs) : OpR X (compareOp .NotIn) (fun x y H Q => ∃ z, x = .str z ∧ y = .ref d ∧ Q (.bl (!(kvs.lookup z).isSome)) H) := by
  obtain ⟨⟨es, n, kd⟩, hv⟩ := D
  intro pins s σ H x y v u Q I rx ry ⟨z, e1, e2, q⟩
  obtain ⟨r, n1, n2⟩ := hv z
  exact op_notIn_kd kd pins s σ H x y v u Q I rx ry ⟨z, r, e1, e2, n1, by rw [relO_some n2]; exact q⟩
theorem op_item_wd (D : WordD X.K X.w d kvs) : OpR X getItem (fun x y H Q => ∃ z v0, x = .ref d ∧ y = .str z ∧ kvs.lookup z = some v0 ∧ Q v0 H) := by
  obtain ⟨⟨es, n, kd⟩, hv⟩ := D
  intro pins s σ H x y v u Q I rx ry ⟨z, v0, e1, e2, e3, q⟩
  obtain ⟨r, n1, n2⟩ := hv z
  rw [e3] at n2
  cases r with
  | none => cases n2
  | some u0 => exact op_item_kd kd pins s σ H x y v u Q I rx ry ⟨z, u0, v0, e1, e2, n1, n2, q⟩
theorem ix_wd (D : WordD X.K X.w d kvs) : IxR X (fun x y H Q => ∃ z v0, x = .ref d ∧ y = .str z ∧ kvs.lookup z = some v0 ∧ Q v0 H) := by
  intro value slice pins s σ H x y v u Q I rx ry h hs
  have h2 := op_item_wd D pins s σ H x y v u Q I rx ry h
  obtain ⟨⟨es, n, kd⟩, hv⟩ := D
  obtain ⟨z, v0, rfl, rfl, e3, q⟩ := h
  cases rx
  exact tail_any (kd_type kd I) PySem.F.slot_dict_getitem.lookup h2 hs
end
/-! ### the head's facts, with tables too -/
def obW (n : Nat) (cs : List (PySem.W.Frag → Bool)) (ps : List PropD) (fa : List He.Fa) (fn : List He.DefD) (ts : List He.Tab) (g : Addr → Option Obj) : (Bool × He.AlD × List He.FnW) × List (Option (List (Option (Str × Int)))) :=
  (obP n cs ps fa fn g, ts.map fun t => He.dicW (kX n g) (t.1 (kX n g)))
structure SaysW (cs : List (PySem.W.Frag → Bool)) (ps : List PropD) (fa : List He.Fa) (fn : List He.DefD) (ts : List He.Tab) (w : World) (K : PySem.W.Frag) : Prop where
  p : SaysP cs ps fa fn K
  t : (ts.map fun t => He.dicW K (t.1 K)) = ts.map fun t => some (He.keysIn w.params t.2)
def hookW (n : Nat) (cs : List (PySem.W.Frag → Bool)) (ps : List PropD) (fa : List He.Fa) (fn : List He.DefD) (ts : List He.Tab) : PySem.W.Hook where
  α := (Bool × He.AlD × List He.FnW) × List (Option (List (Option (Str × Int))))
  obs := fun s => obW n cs ps fa fn ts s.heap.get?
  val := fun w => (valP ps fn, ts.map fun t => some (He.keysIn w.params t.2))
  says := fun w h => ∃ K : PySem.W.Frag, K.In h ∧ SaysW cs ps fa fn ts w K
  of := fun w _ e => by
    have e0 := congrArg (fun z : (Bool × He.AlD × List He.FnW) × List (Option (List (Option (Str × Int)))) => z.1) e
    have e1 := congrArg (fun z : Bool × He.AlD × List He.FnW => z.1) e0
    obtain ⟨a, b⟩ := Bool.and_eq_true_iff.mp e1
    exact ⟨_, He.frG_in, ⟨a, b, congrArg (fun z : Bool × He.AlD × List He.FnW => z.2.2) e0, congrArg (fun z : Bool × He.AlD × List He.FnW => z.2.1) e0⟩,
      congrArg (fun z : (Bool × He.AlD × List He.FnW) × List (Option (List (Option (Str × Int)))) => z.2) e⟩
  keeps := fun _ _ _ h k => by
    obtain ⟨K, hK, c⟩ := h
    exact ⟨K, PySem.W.Frag.In.keeps hK k, c⟩
theorem obW_eq {n : Nat} {cs : List (PySem.W.Frag → Bool)} {ps : List PropD} {fa : List He.Fa} {fn : List He.DefD} {ts : List He.Tab} {g : Addr → Option Obj} {s : Shared} (h : ∀ a, g a = s.heap.get? a) : obW n cs ps fa fn ts g = (hookW n cs ps fa fn ts).obs s := by
  have e : g = s.heap.get? := funext h
  rw [e] <;> rfl
theorem SaysW.tab {cs : List (PySem.W.Frag → Bool)} {ps : List PropD} {fa : List He.Fa} {fn : List He.DefD} {ts : List He.Tab} {w : World} {K : PySem.W.Frag} (c : SaysW cs ps fa fn ts w K) (i : Nat) {t : He.Tab} (h : ts[i]? = some t := by rfl) : ∃ es n, KDict K w (t.1 K) es n := by
  have e2 : (ts.map fun t => He.dicW K (t.1 K))[i]? = (ts.map fun t => some (He.keysIn w.params t.2))[i]? := by rw [c.t]
  rw [List.getElem?_map, List.getElem?_map, h] at e2
  exact He.dicW_ok (Option.some.inj e2)
end Bs

namespace Bs
open PySem PySem.Spec PyProof.Rows L2
open Evl (Ex)
/-! ### defs with *v -/
def spStar (n : Nat) (sp : Sp) : Sp := fun vs H Q E => ∃ ws rest, vs = ws ++ rest ∧ ws.length = n ∧ rest.length ≤ sizeLine ∧ ∀ p, H p = Option.none → sp (ws ++ [V.ref p]) (upd H p (.tup rest)) Q E
section
variable {P : Program} {w : World} {K : PySem.W.Frag} {mg : Str → Option Value} {base : Heap} {x qual : Str} {params : Arguments} {body : List Stmt} {scope : Scope} {kws : List (Str × V)} {f : Addr} {fd : FuncData}
theorem fun_star {CX : CXT} {N ps : List Str} {pv : Str} {k : Nat} {sp : Sp} (F : FunD K x qual params body scope [] kws f fd) (S : FnScope N (ps ++ [pv]) scope) (hCX : StX.CXUp CX)
    (hb : ∀ (kV doc pm : Value) (an : Option Addr) (cdv ct : Value) (us rest : List Value), us.length = ps.length → bindArgs (PySem.W.fnOf x qual params body scope .none kV doc pm an cdv ct) ⟨us ++ rest, []⟩ = (newTuple rest >>= fun t => pure (ps.zip us ++ [(pv, t)])))
    (hbody : ∀ (cdv : Value) (A : Around) (fr : List Env) (s : Shared) (H : Hp) (vs : List V) (Q : VK) (E : XK), Room k (A.deeper (envOfC qual scope s.heap.objs.size f cdv)) → sp vs H Q E →
      ∃ t, PSs (cxOf CX P w K mg base N qual scope f cdv A fr s H E) body t ∧ t { nx := fun _ H' => Q .non H', rt := Q } (start N vs) H) : FnR P w K mg base CX (k + 1) f (spStar ps.length sp) := by
  obtain ⟨oc, od, dV, kV, doc, pm, an, cdv, ct, osl, rfl, lk, hcd, hD, _⟩ := F.ex
  rcases hD with ⟨_, rfl⟩ | ⟨e, _⟩
  · exact StX.fn_star (ps := ps) (pv := pv) (sp := sp) lk hcd S hCX (hb kV doc pm an cdv ct) fun A fr s H vs Q E hr h => hbody cdv A fr s H vs Q E hr h
  · exact absurd rfl e
end
section
variable {X : Cx} {D : Addr → Prop} {CX : CXT} {k : Nat} {f : Addr} {fd : FuncData} {ps : List Str} {sp : Sp} {E : XK} {ES : L2.St → XK} {m : Str} {o e : Expr} {es : List Expr} {ta : TE} {t : TA} {pos apos : Pos}
theorem pe_methDR {pl : Sem Bool} (he : PE X o ta) (cm : ∀ C, D C → Cls X.K C ∧ Meth X.K C m f) (F : FnR X.prog X.w X.K X.mg X.base CX k f sp) (hr : Room k X.A) (hx : Passes CX X E) (ha : PA X (e :: es) t)
    (hst : starEach (e :: es) X.env = (false, eval e X.env) :: starEach es X.env := by rfl) (hpl : (backTo pos (starEach es X.env)).any (·.1) = false := by rfl)
    (ht : eval (.Call (.Attribute o m apos) (e :: es) [] pos) X.env = (do
      let ov ← eval o X.env
      standAt apos.atName
      let (f, first) ← holding [ov] (getMethod ov m pl)
      callWith pos f first (backTo pos (starEach (e :: es) X.env)) (backToKw pos (keywordEach [] X.env))) := by rfl) :
    PE X (.Call (.Attribute o m apos) (e :: es) [] pos) (tMethD D m sp E ta t) := by
  refine ⟨fun pins s σ H Q I h => ?_⟩
  refine PySem.W.methodCall_KW (pl := pl) (thn (he.run pins s σ H _ I h) fun u s1 ⟨x, H1, I1, rx, a, C, dx, fs, ex, ea, hC, l, q⟩ => ?_) ht
  subst ex
  obtain rfl : u = Value.ref a := rx
  obtain ⟨c, hm⟩ := cm C hC
  refine getmeth_ok I1 ea c hm l ?_
  refine PySem.W.callWith_K (first := [.ref a]) (h₀ := X.base) I.ok.mod.kin hm.kp (thn (ha.run pos pins s1 σ H1 _ I1 q) fun us s2 ⟨vs, H2, I2, r, q2⟩ => ⟨I2.kIn, ?_⟩) hst hpl
  exact wpAny_call (run_fnR (us := .ref a :: us) (vs := .ref a :: vs) F hr hx I2 (.cons rfl r) q2)
theorem pe_meth0DR {pl : Sem Bool} (he : PE X o ta) (cm : ∀ C, D C → Cls X.K C ∧ Meth X.K C m f) (F : FnR X.prog X.w X.K X.mg X.base CX k f sp) (hr : Room k X.A) (hx : Passes CX X E)
    (ht : eval (.Call (.Attribute o m apos) [] [] pos) X.env = (do
      let ov ← eval o X.env
      standAt apos.atName
      let (f, first) ← holding [ov] (getMethod ov m pl)
      callWith pos f first (backTo pos (starEach [] X.env)) (backToKw pos (keywordEach [] X.env))) := by rfl) :
    PE X (.Call (.Attribute o m apos) [] [] pos) (tMethD D m sp E ta tNil) := by
  refine ⟨fun pins s σ H Q I h => ?_⟩
  refine PySem.W.methodCall_KW (pl := pl) (thn (he.run pins s σ H _ I h) fun u s1 ⟨x, H1, I1, rx, a, C, dx, fs, ex, ea, hC, l, q⟩ => ?_) ht
  subst ex
  obtain rfl : u = Value.ref a := rx
  obtain ⟨c, hm⟩ := cm C hC
  refine getmeth_ok I1 ea c hm l ?_
  exact PySem.W.callWith_K0 (first := [.ref a]) I1.kIn hm.kp (wpAny_call (run_fnR (us := [.ref a]) (vs := [.ref a]) F hr hx I1 (.cons rfl .nil) q))
theorem run_fRS {pins : List (Addr × Obj)} {σ : L2.St} {H : Hp} {s : Shared} {Q : VK} {us : List Value} {vs : List V}
    (F : FnR X.prog X.w X.K X.mg X.base CX k f sp) (hr : Room k X.A) (hx : PassesAt CX X σ (ES σ))
    (I : Inv X pins σ H s) (r : Vals vs us) (h : sp vs H Q (ES σ)) : wpAny (model X.prog X.w) X.A (call (.ref f) us) (EP X pins σ Q) X.xe s := by
  refine wpAny_call (codeAny_mono (F X.A X.stack s H us vs Q (ES σ) hr I.env0 r h) ?_)
  rintro (er | fl) s' z
  · exact hx pins H s er s' I z
  · cases fl with
    | ret u => exact I.after z
    | _ => exact z.elim
theorem pe_methDRS {pl : Sem Bool} (he : PE X o ta) (cm : ∀ C, D C → Cls X.K C ∧ Meth X.K C m f) (F : FnR X.prog X.w X.K X.mg X.base CX k f sp) (hr : Room k X.A) (hx : ∀ σ, PassesAt CX X σ (ES σ)) (ha : PA X (e :: es) t)
    (hst : starEach (e :: es) X.env = (false, eval e X.env) :: starEach es X.env := by rfl) (hpl : (backTo pos (starEach es X.env)).any (·.1) = false := by rfl)
    (ht : eval (.Call (.Attribute o m apos) (e :: es) [] pos) X.env = (do
      let ov ← eval o X.env
      standAt apos.atName
      let (f, first) ← holding [ov] (getMethod ov m pl)
      callWith pos f first (backTo pos (starEach (e :: es) X.env)) (backToKw pos (keywordEach [] X.env))) := by rfl) :
    PE X (.Call (.Attribute o m apos) (e :: es) [] pos) (tMethDS D m sp ES ta t) := by
  refine ⟨fun pins s σ H Q I h => ?_⟩
  refine PySem.W.methodCall_KW (pl := pl) (thn (he.run pins s σ H _ I h) fun u s1 ⟨x, H1, I1, rx, a, C, dx, fs, ex, ea, hC, l, q⟩ => ?_) ht
  subst ex
  obtain rfl : u = Value.ref a := rx
  obtain ⟨c, hm⟩ := cm C hC
  refine getmeth_ok I1 ea c hm l ?_
  refine PySem.W.callWith_K (first := [.ref a]) (h₀ := X.base) I.ok.mod.kin hm.kp (thn (ha.run pos pins s1 σ H1 _ I1 q) fun us s2 ⟨vs, H2, I2, r, q2⟩ => ⟨I2.kIn, ?_⟩) hst hpl
  exact run_fRS (us := .ref a :: us) (vs := .ref a :: vs) F hr (hx σ) I2 (.cons rfl r) q2
theorem pe_meth0DRS {pl : Sem Bool} (he : PE X o ta) (cm : ∀ C, D C → Cls X.K C ∧ Meth X.K C m f) (F : FnR X.prog X.w X.K X.mg X.base CX k f sp) (hr : Room k X.A) (hx : ∀ σ, PassesAt CX X σ (ES σ))
    (ht : eval (.Call (.Attribute o m apos) [] [] pos) X.env = (do
      let ov ← eval o X.env
      standAt apos.atName
      let (f, first) ← holding [ov] (getMethod ov m pl)
      callWith pos f first (backTo pos (starEach [] X.env)) (backToKw pos (keywordEach [] X.env))) := by rfl) :
    PE X (.Call (.Attribute o m apos) [] [] pos) (tMethDS D m sp ES ta tNil) := by
  refine ⟨fun pins s σ H Q I h => ?_⟩
  refine PySem.W.methodCall_KW (pl := pl) (thn (he.run pins s σ H _ I h) fun u s1 ⟨x, H1, I1, rx, a, C, dx, fs, ex, ea, hC, l, q⟩ => ?_) ht
  subst ex
  obtain rfl : u = Value.ref a := rx
  obtain ⟨c, hm⟩ := cm C hC
  refine getmeth_ok I1 ea c hm l ?_
  exact PySem.W.callWith_K0 (first := [.ref a]) I1.kIn hm.kp (run_fRS (us := [.ref a]) (vs := [.ref a]) F hr (hx σ) I1 (.cons rfl .nil) q)
end
/-! ### enumerate of a tuple -/
theorem enum_newB {v : Value} {o : Obj} {G : Heap → Prop} (B : Begins v o G) : Meets (Builtin.«enumerate.__new__» ⟨[.type "enumerate", v], []⟩) (fun _ R s => G s.heap ∧
    R (.ok (.ret (.ref (s.heap.push o).objs.size))) { s with heap := (s.heap.push o).push { cls := .type "enumerate", data := .fields #[.none, .bool false, .ref s.heap.objs.size, rawInt 0, .none, .none] } }) :=
  .of_wp fun prog w A R ⟨hp, g, d, tk, os⟩ ⟨h1, h⟩ => by
    have sb := sub_enumerate
    have qi : ∀ {A' : Around} {E : Value → Shared → Prop} {Q : Value → Shared → Prop}, Q (.ref hp.objs.size) ⟨hp.push o, g, d, tk, os⟩ → wpAny (model prog w) A' (pyIter v) Q E ⟨hp, g, d, tk, os⟩ := fun q => B.iter prog w _ _ ⟨hp, g, d, tk, os⟩ _ h1 q
    wp_walk using qi
    refine wpAny_stack_any fun st => wpAny_pure ?_
    split
    · rename_i c _ _ _ _ _
      cases (c == Value.type "enumerate") <;> (wp_walk using qi; exact ⟨_, rfl, h⟩)
    · wp_walk using qi; exact ⟨_, rfl, h⟩
theorem enum_beginsB {prog : Program} {w : World} {A : Around} {E : Value → Shared → Prop} {s : Shared} {v : Value} {o : Obj} {G : Heap → Prop} {Q : Value → Shared → Prop} (B : Begins v o G) (h1 : G s.heap)
    (h : ∀ h', IsEnum h' (s.heap.objs.size + 1) s.heap.objs.size 0 .none → h'.get? s.heap.objs.size = some o → h'.objs.size = s.heap.objs.size + 2 → (∀ b o, s.heap.get? b = some o → h'.get? b = some o) → Q (.ref (s.heap.objs.size + 1)) { s with heap := h' }) :
    wpAny (model prog w) A (call (.type "enumerate") [v]) Q E s := by
  refine callType_new F.called_enumerate (by decide) (F.typeCall_enumerate_1 _) (F.newCall_enumerate_1 _) (fun ob => F.args_object_init_2 ob _) F.entry_enumerate_new (enum_newB B) ⟨h1, ?_⟩
  have hz : (s.heap.push o).objs.size = s.heap.objs.size + 1 := Heap.size_push ..
  show _ ∧ _
  rw [hz]
  have he := Heap.get?_push_size (s.heap.push o) (o := { cls := .type "enumerate", data := .fields #[.none, .bool false, .ref s.heap.objs.size, rawInt 0, .none, .none] }) rfl
  rw [hz] at he
  exact ⟨⟨_, he, rfl⟩, h _ he (Heap.get?_push_of_some _ (Heap.get?_push_size _ B.free)) (by rw [Heap.size_push, hz]) fun b o x => Heap.get?_push_of_some _ (Heap.get?_push_of_some _ x)⟩
def IteT (K : PySem.W.Frag) (a : Addr) (m : Nat) : It :=
  ⟨fun i H => ∃ (xs : List V) (x : V), SqT K H a xs ∧ xs[i]? = some x ∧ xs.length = m, fun i H v H' => ∃ T x, v = .ref T ∧ H T = none ∧ H' = upd H T (.tup [.int (i : Nat), x]) ∧ ∀ xs, SqT K H a xs → xs[i]? = some x, fun i H => ∃ xs : List V, SqT K H a xs ∧ xs.length ≤ i ∧ xs.length = m⟩
theorem turn_enumT {P : Program} {w : World} {K : PySem.W.Frag} {elts : List Expr} {kk : Nat} {tpos : Pos} (a e it : Addr) (m : Nat) :
    Turn P w K (.Tuple elts kk tpos) (IteT K a m) [e, it] e (fun i h => (∃ old, IsEnum h e it ((i : Nat) : Int) old) ∧ h.IsTupleIter it a i ∧ e ≠ it ∧ i ≤ m) where
  mem := by simp
  obj := fun i h ⟨⟨old, he⟩, ⟨o, ho, hc, hd⟩, _⟩ b hb => by
    rcases (by simpa using hb : b = e ∨ b = it) with z | z
    · rw [z]; exact ⟨_, he, fun v q => nomatch q⟩
    · rw [z]; exact ⟨o, ho, fun v q => by rw [hd] at q; cases q⟩
  keep := fun i h h' ⟨⟨old, he⟩, hi, hne, hm⟩ k => ⟨⟨old, k e (by simp) _ he⟩, hi.at fun o q => k it (by simp) o q, hne, hm⟩
  item := by
    intro X hP hw hK hc i pins s σ H E I hf ⟨⟨old, he⟩, hit, hne, hm⟩ ⟨xs, x, hq, hx, hxm⟩
    subst hP hw hK
    obtain ⟨its, rv, p, hz⟩ := I.tuple hq
    obtain ⟨u, hu, ru⟩ := rv.get hx
    have p2 : s.heap.IsTuple a its.toArray := p
    have hl := rv.length
    have hel : e < s.heap.objs.size := Heap.lt_size he
    have hil : it < s.heap.objs.size := by obtain ⟨_, q, _⟩ := hit; exact Heap.lt_size q
    have nae : a ≠ it := fun z => by
      obtain ⟨o1, q1, c1, _⟩ := hit
      obtain ⟨o2, q2, c2, _⟩ := p2
      rw [z, q1] at q2
      cases q2
      rw [c1] at c2
      exact absurd (Value.type.inj c2) (by decide)
    have na : a ≠ e := fun z => by
      obtain ⟨o2, q2, c2, _⟩ := p2
      rw [z, he] at q2
      cases q2
      exact absurd (Value.type.inj c2) (by decide)
    have im : i < its.toArray.size := by
      have := (List.getElem?_eq_some_iff.mp hx).1
      simp; omega
    refine wpAny_pyNext_enum_itemD (Draws.tuple (A := X.A.in1) (I.ok.hd hc) it a nae its.toArray) he ⟨hit, p2⟩ im hne (by simp [hne, Ne.symm na]) fun u1 h' tk hu1 ho hst hT hsz hk => ?_
    obtain rfl : u1 = u := by
      have : its.toArray[i]? = some u := by simpa using hu
      rw [hu1] at this
      exact Option.some.inj this
    refine ⟨_, rfl, wpAny_letOwnedTupleGo_enum (s := { s with heap := h', toks := tk + 1 }) ho fun h'' he' sb => ?_⟩
    have hT2 : h''.get? s.heap.objs.size = some { cls := .type "tuple", data := .seq #[.int i tk, u1] } := (sb.2 _ (Nat.ne_of_gt hel)).trans hT
    have new : ObjOk X.prog X.w (upd H s.heap.objs.size (.tup [.int (i : Nat), x])) h'' s.heap.objs.size (.tup [.int (i : Nat), x]) :=
      ⟨by show 2 ≤ sizeLine; decide, [.int i tk, u1], .cons ⟨_, rfl⟩ (.cons ru .nil), ⟨_, hT2, rfl, _, rfl⟩⟩
    have I1 : Inv X pins σ (upd H s.heap.objs.size (.tup [.int (i : Nat), x])) { s with heap := h'', toks := tk + 1 } :=
      I.turnedNew (ch := [e, it]) (fun b ob hb q => (sb.2 b (fun z => hb (by simp [z]))).trans (hk b ob (fun z => hb (by simp [z])) (fun z => hb (by simp [z])) q)) hf (Nat.le_refl _) new
    refine ⟨.ref s.heap.objs.size, _, I1, rfl, ⟨_, x, rfl, I.hok.fresh (Nat.le_refl _), rfl, fun ys hy => by rw [I.tuple_inj hy hq]; exact hx⟩, ⟨⟨u1, ?_⟩, hst.1.at fun o q => (sb.2 it (Ne.symm hne)).trans q, hne, ?_⟩, fun b hb => ?_⟩
    · rw [show ((i + 1 : Nat) : Int) = (i : Int) + 1 by omega]; exact he'
    · have := (List.getElem?_eq_some_iff.mp hx).1
      omega
    · have hb' : b < s.heap.objs.size := by
        rcases (by simpa using hb : b = e ∨ b = it) with z | z
        · rw [z]; exact hel
        · rw [z]; exact hil
      rw [upd_ne (Nat.ne_of_lt hb')]
      exact (hf b hb).1
  done := by
    intro X hP hw hK hc i pins s σ H E I hf ⟨⟨old, he⟩, hit, hne, hm⟩ ⟨xs, hq, hx, hxm⟩
    subst hP hw hK
    obtain ⟨its, rv, p, hz⟩ := I.tuple hq
    have p2 : s.heap.IsTuple a its.toArray := p
    obtain ⟨f0, f1, f2, f3, f4, f5⟩ := hf it (by simp)
    have hl := rv.length
    have nae : a ≠ it := fun z => by
      obtain ⟨o1, q1, c1, _⟩ := hit
      obtain ⟨o2, q2, c2, _⟩ := p2
      rw [z, q1] at q2
      cases q2
      rw [c1] at c2
      exact absurd (Value.type.inj c2) (by decide)
    have e1 : i = its.toArray.size := by simp; omega
    refine wpAny_pyNext_enum_endD (Draws.tuple (A := X.A.in1) (I.ok.hd hc) it a nae its.toArray) he ⟨e1 ▸ hit, p2⟩ fun h' eb => ⟨rfl, I.turned (t' := s.toks) (fun b o hb q => eb b o hb q) f0 f1 f3 f4 f5⟩
  self := fun A i s Q E ⟨⟨_, he⟩, _⟩ h => wpAny_pyIter_enum he h
def iEnumT (K : PySem.W.Frag) (ta : TA) : TI := fun σ H R => ta σ H fun vs H1 => ∃ a xs, vs = [.ref a] ∧ SqT K H1 a xs ∧ R (IteT K a xs.length) H1
theorem pi_enumT {X : Cx} {e : Expr} {ta : TA} {p pos tpos : Pos} {elts : List Expr} {kk : Nat} (hg : Gl X "enumerate") (hm : X.mg "enumerate" = none) (ha : PA X [e] ta) (hs : starEach [e] X.env = [(false, eval e X.env)] := by rfl) :
    PI X (.Tuple elts kk tpos) (.Call (.Name "enumerate" p) [e] [] pos) (iEnumT X.K ta) := by
  refine ⟨fun pins s σ H R I h => Call_ (ld_blt I hg hm boot_enumerate (PyProof.Rows.callWith_type1 (thn (ha.run pos pins s σ H _ I h) fun us s1 ⟨vs, H1, I1, r1, a, xs, ex, hq, q⟩ => ?_) hs rfl))⟩
  subst ex
  cases r1 with
  | cons r rr =>
    cases rr
    cases r
    obtain ⟨its, rv, p', hz⟩ := I1.tuple hq
    refine enum_beginsB (begins_tuple a its.toArray) p' fun h' he hit hsz hk => wpAny_pyIter_enum he ?_
    have I2 : Inv X pins σ H1 { s1 with heap := h' } := I1.kept (t' := s1.toks) hk
    refine ⟨s1.heap.objs.size + 1, [s1.heap.objs.size + 1, s1.heap.objs.size], _, _, H1, rfl, I2, turn_enumT a (s1.heap.objs.size + 1) s1.heap.objs.size xs.length, ⟨⟨.none, he⟩, ⟨_, hit, rfl, rfl⟩, Nat.succ_ne_self _, Nat.zero_le _⟩, fun b hb => ?_, q⟩
    have hle : s1.heap.objs.size ≤ b := by
      rcases (by simpa using hb : b = s1.heap.objs.size + 1 ∨ b = s1.heap.objs.size) with z | z
      · rw [z]; exact Nat.le_add_right _ _
      · rw [z]; exact Nat.le_refl _
    exact I1.fpOk hle (I1.hok.fresh hle)
section
variable {K : PySem.W.Frag} {σ : L2.St} {H : Hp} {ta : TA} {tb : TS} {g : TG} {D : Ends} {a : Addr} {xs : List V}
theorem tFor_enumT : tFor (iEnumT K ta) g tb D σ H = ta σ H fun us H1 => ∃ a xs, us = [.ref a] ∧ SqT K H1 a xs ∧ ForJ (IteT K a xs.length) g tb D σ H1 := rfl
theorem walk_enumT : Walk (IteT K a xs.length) xs.length (fun H => SqT K H a xs) (YPair (fun i => some (.int (i : Nat))) (fun i => xs[i]?)) := by
  refine ⟨fun i _ hi q => ⟨xs, xs[i], q, by simp [hi], rfl⟩, fun _ q => ⟨xs, q, Nat.le_refl _, rfl⟩, fun i H v H' _ q ⟨T, x, h1, h2, h3, h4⟩ => ⟨T, .int (i : Nat), x, h1, h2, h3, rfl, h4 xs q⟩⟩
theorem forET_in (Pv : Nat → L2.St → Hp → Prop) (h0 : Pv 0 σ H) (hl : ∀ i σ' H', i ≤ xs.length → Pv i σ' H' → SqT K H' a xs) (hd : ∀ σ H, Pv xs.length σ H → D.nx σ H)
    (hs : ∀ (i : Nat) x T σ H, xs[i]? = some x → Pv i σ H → H T = none → g (.ref T) σ (upd H T (.tup [.int (i : Nat), x])) fun σ2 H2 => tb { D with nx := Pv (i + 1), ct := Pv (i + 1), bk := D.nx } σ2 H2) : ForJ (IteT K a xs.length) g tb D σ H := by
  refine for_it walk_enumT Pv h0 hl ?_ hd
  rintro i x σ H H' hi p ⟨T, x1, y1, rfl, hT, rfl, h1, h2⟩
  cases h1
  exact hs i y1 T σ H h2 p hT
end
/-! ### repr and str of data -/
def rReprW (K : PySem.W.Frag) : List V → Hp → VK → Prop := fun xs H Q => ∃ v d, xs = [v] ∧ Df K H v d ∧ Good 20 16000000 d ∧ Q (.str (PyData.shown d)) H
theorem call_repr_W {X : Cx} {k : Nat} (hr : Room k X.A) (hc : Clean X.A) (sy : (X.K.lookup sysModules).isSome = true) : CallR X (.builtin "repr") (rReprW X.K) := by
  intro pins s σ H xs us Q I r ⟨v, d, ex, hd, ⟨g1, g2, g3⟩, q⟩
  subst ex
  have hz : d.shown.length ≤ sizeLine := by rw [sizeLine_eq]; omega
  cases r with
  | cons r0 r1 =>
  cases r1
  obtain ⟨as, rd, na⟩ := df_reads I sy _ _ _ hd r0
  have hu := hr.units
  have big : ∀ {a : Addr}, RelV (.ref a) (.ref a) → Reads s.heap (.ref a) d as → wpAny (model X.prog X.w) X.A (call (.builtin "repr") [.ref a]) (EP X pins σ Q) X.xe s := fun {a} _ rd =>
    repr_of_reads' rd g1 (fun _ => na) hc (by omega) (fun _ _ z => z) (fun h' u tk kk => ⟨.str _, H, I.kept kk, ⟨_, rfl⟩, q⟩) hz
  cases hd with
  | lst _ _ => cases r0; exact big rfl rd
  | tup _ _ => cases r0; exact big rfl rd
  | dct _ => cases r0; exact big rfl rd
  | dp fl hd =>
    cases hd with
    | non => cases r0; exact P.repr_of_none ⟨.str _, H, I.tok _, ⟨_, rfl⟩, q⟩
    | bl b =>
      cases r0
      refine P.repr_of_bool ⟨.str _, H, I.tok _, ⟨_, rfl⟩, ?_⟩
      cases b <;> exact q
    | int i =>
      obtain ⟨t, rfl⟩ := r0
      exact P.repr_of_int (by simpa only [PyData.showable, decide_eq_true_eq] using g1) ⟨.str _, H, I.tok _, ⟨_, rfl⟩, q⟩
    | str x =>
      obtain ⟨t, rfl⟩ := r0
      exact P.repr_of_str ⟨.str _, H, I.tok _, ⟨_, rfl⟩, q⟩ hz
    | lst _ _ => cases fl
    | tup _ _ => cases fl
def rStr2 : List V → Hp → VK → Prop := fun xs H Q => ∃ v, xs = [v] ∧ ((∃ i : Int, v = .int i ∧ i.natAbs.log2 < 1900 ∧ Q (.str (toString i)) H) ∨ ∃ a, v = .str a ∧ Q (.str a) H)
theorem call_str2 {X : Cx} : CallR X (.type "str") rStr2 := by
  intro pins s σ H xs us Q I r ⟨v, ex, h⟩
  subst ex
  rcases h with ⟨i, rfl, l, q⟩ | ⟨a, rfl, q⟩
  · exact call_str_int pins s σ H _ us Q I r ⟨i, rfl, by omega, q⟩
  · exact SkE.call_str_str pins s σ H _ us Q I r ⟨a, rfl, q⟩
/-! ### the types of data -/
def tyD : PyData → String
  | .none => "NoneType"
  | .bool _ => "bool"
  | .int _ => "int"
  | .str _ => "str"
  | .list _ => "list"
  | .tuple _ => "tuple"
  | _ => "dict"
theorem sqL_ty {K : PySem.W.Frag} {H : Hp} {a : Addr} {xs : List V} (h : SqL K H a xs) : TyX K H (.ref a) (.type "list") := by
  rcases h with (h | ⟨o, h⟩) | ⟨o, its, n, hk, hc, _⟩
  · exact .base (.lst h)
  · exact .base (.frz h)
  · exact .kList hk hc
theorem sqT_ty {K : PySem.W.Frag} {H : Hp} {a : Addr} {xs : List V} (h : SqT K H a xs) : TyX K H (.ref a) (.type "tuple") := by
  rcases h with (h | ⟨o, h⟩) | ⟨o, its, n, hk, hc, _⟩
  · exact .base (.tup h)
  · exact .fTuple h
  · exact .kTuple hk hc
theorem dp_ty {K : PySem.W.Frag} {H : Hp} {v : V} {d : PyData} (h : Dp K H v d) : TyX K H v (.type (tyD d)) := by
  cases h with
  | non => exact .base .non
  | bl b => exact .base (.bl b)
  | int i => exact .base (.int i)
  | str x => exact .base (.str x)
  | lst h _ => exact sqL_ty h
  | tup h _ => exact sqT_ty h
/-! ### inside a comprehension: the fragment said outright -/
def rJoin (K : PySem.W.Frag) : V → List V → Hp → VK → Prop := fun x xs H Q => ∃ a p, ∃ ys : List Str, x = .str a ∧ xs = [.ref p] ∧ (SqL K H p (ys.map V.str) ∨ SqT K H p (ys.map V.str)) ∧ (ys.map (·.length)).sum + ys.length * a.length ≤ 16777216 ∧ Q (.str (Txt.join a ys)) H
theorem pe_joinK {X : Cx} {o e : Expr} {to te : TE} {apos pos : Pos} (K : PySem.W.Frag) (hK : X.K = K) (ho : PE X o to) (he : PE X e te) (h1 : starEach [e] X.env = [(false, eval e X.env)] := by rfl) (h2 : attributeBase o (Str.ofString "join") X.env (eval o X.env) = eval o X.env := by rfl) (h3 : (apos.endLine == pos.line) = true := by rfl) :
    PE X ((o.Attribute (Str.ofString "join") apos).Call [e] [] pos) (tM1 (rJoin K) to te) := by
  subst hK
  exact pe_join ho he h1 h2 h3
theorem pi_tupK {X : Cx} {tg l : Expr} {tl : TE} (K : PySem.W.Frag) (hK : X.K = K) (hl : PE X l tl) : PI X tg l (iTup K tl) := by
  subst hK
  exact pi_tup hl
theorem pi_listK {X : Cx} {tg l : Expr} {tl : TE} (K : PySem.W.Frag) (hK : X.K = K) (hl : PE X l tl) : PI X tg l (iList K tl) := by
  subst hK
  exact pi_list hl
/-! ### x in a tuple of data -/
def rInT (K : PySem.W.Frag) : R2 := fun x y H Q => ∃ d ds, Dp K H x d ∧ Dp K H y (.tuple ds) ∧ fine 20 d = true ∧ fine 20 (.tuple ds) = true ∧ Q (.bl (ds.any fun z => z.eqv d)) H
theorem op_inT {X : Cx} {k : Nat} (hr : Room k X.A) : OpR X (compareOp .In) (rInT X.K) := by
  intro pins s σ H x y v u Q I rx ry ⟨d, ds, h1, h2, f1, f2, q⟩
  obtain ⟨as, ra⟩ := Dp.reads I _ _ _ h2 ry
  obtain ⟨bs, rb⟩ := Dp.reads I _ _ _ h1 rx
  have hu := hr.un
  exact PySem.SeqAt.in_tuple_reads ra rb (fine_can (.tuple ds) 20 f2) (fine_can d 20 f1) (room_in_shaped (fine_shaped f1) (by omega)) ⟨.bl _, H, I, rfl, q⟩
end Bs

namespace Bs
open PySem PySem.Spec PyProof.Rows L2
open Evl (Ex)
def topS (i : Nat) : Stmt := PySem.Challenge.pw_backslots_k44_whole_lists_are_never_bett.main.body.getD i (.Pass ⟨0, 0, 0, 0⟩)
abbrev s_is_int : Stmt := topS 1
abbrev s_is_whole : Stmt := topS 2
abbrev s_InvalidOperations___init__ : Stmt := inClass (topS 5) 0
abbrev s_CannotDo___init__ : Stmt := inClass (topS 6) 0
abbrev s_TooLarge___init__ : Stmt := inClass (topS 7) 0
abbrev s_TooDeep___init__ : Stmt := inClass (topS 8) 0
abbrev s_require_length : Stmt := topS 16
abbrev s_require_slots : Stmt := topS 17
abbrev s_require_task : Stmt := topS 18
abbrev s_reach_of : Stmt := topS 19
abbrev s_rounds_of : Stmt := topS 20
abbrev s_steps_with : Stmt := topS 22
abbrev s_least_of : Stmt := topS 23
abbrev s_least_steps : Stmt := topS 24
abbrev s_is_operation : Stmt := topS 28
abbrev s_require_operations : Stmt := topS 29
abbrev s_Trace___init__ : Stmt := inClass (topS 30) 0
abbrev s_Trace_hand : Stmt := inClass (topS 30) 1
abbrev s_Trace_kept : Stmt := inClass (topS 30) 2
abbrev s_Trace_steps : Stmt := inClass (topS 30) 3
abbrev s_Trace_backs : Stmt := inClass (topS 30) 4
abbrev s_Trace_copied : Stmt := inClass (topS 30) 5
abbrev s_Trace_can_do : Stmt := inClass (topS 30) 6
abbrev s_Trace_do : Stmt := inClass (topS 30) 7
abbrev s_require_list : Stmt := topS 31
abbrev s_wrong_of : Stmt := topS 32
abbrev s_traces_of : Stmt := topS 33
abbrev s_first_wrong : Stmt := topS 34
abbrev s_steps_of : Stmt := topS 35
abbrev s_backs_of : Stmt := topS 36
abbrev s_extra_steps : Stmt := topS 37
abbrev s_most_kept : Stmt := topS 38
abbrev s_times_in : Stmt := topS 39
abbrev s_kept_behind : Stmt := topS 40
abbrev s_closed_count : Stmt := topS 43
abbrev s_halves_of : Stmt := topS 44
abbrev s_own_operations : Stmt := topS 45
abbrev s_count_of : Stmt := topS 46
abbrev s_parts_of : Stmt := topS 47
abbrev s_whole_plan : Stmt := topS 48
abbrev s_row_operation : Stmt := topS 49
abbrev s_operation_of : Stmt := topS 50
abbrev s_plan_list : Stmt := topS 51
abbrev s_L_wound : Stmt := topS 53
abbrev s_L_spin : Stmt := topS 54
abbrev s_L_begin : Stmt := topS 55
abbrev s_L_drawn_list : Stmt := topS 56
abbrev s_L_right : Stmt := topS 57
abbrev s_law : Stmt := topS 58
structure Txt (P : Program) (w : World) (K : PySem.W.Frag) (mg : Str → Option Value) (base : Heap) where
  a_is_int : Addr
  fd_is_int : FuncData
  F_is_int : FnP K "is_int" "is_int" s_is_int a_is_int fd_is_int
  b_is_int : Binds K fd_is_int ["value"] []
  g_is_int : mg "is_int" = some (.ref a_is_int)
  a_is_whole : Addr
  fd_is_whole : FuncData
  F_is_whole : FnP K "is_whole" "is_whole" s_is_whole a_is_whole fd_is_whole
  b_is_whole : Binds K fd_is_whole ["value", "low", "high"] []
  g_is_whole : mg "is_whole" = some (.ref a_is_whole)
  a_InvalidOperations___init__ : Addr
  fd_InvalidOperations___init__ : FuncData
  F_InvalidOperations___init__ : FnP K "__init__" "InvalidOperations.__init__" s_InvalidOperations___init__ a_InvalidOperations___init__ fd_InvalidOperations___init__
  b_InvalidOperations___init__ : Binds K fd_InvalidOperations___init__ ["self", "item"] []
  a_CannotDo___init__ : Addr
  fd_CannotDo___init__ : FuncData
  F_CannotDo___init__ : FnP K "__init__" "CannotDo.__init__" s_CannotDo___init__ a_CannotDo___init__ fd_CannotDo___init__
  b_CannotDo___init__ : Binds K fd_CannotDo___init__ ["self", "operation"] []
  a_TooLarge___init__ : Addr
  fd_TooLarge___init__ : FuncData
  F_TooLarge___init__ : FnP K "__init__" "TooLarge.__init__" s_TooLarge___init__ a_TooLarge___init__ fd_TooLarge___init__
  b_TooLarge___init__ : Binds K fd_TooLarge___init__ ["self", "limit"] []
  a_TooDeep___init__ : Addr
  fd_TooDeep___init__ : FuncData
  F_TooDeep___init__ : FnP K "__init__" "TooDeep.__init__" s_TooDeep___init__ a_TooDeep___init__ fd_TooDeep___init__
  b_TooDeep___init__ : Binds K fd_TooDeep___init__ ["self", "rounds"] []
  a_require_length : Addr
  fd_require_length : FuncData
  F_require_length : FnP K "require_length" "require_length" s_require_length a_require_length fd_require_length
  b_require_length : Binds K fd_require_length ["value"] []
  g_require_length : mg "require_length" = some (.ref a_require_length)
  a_require_slots : Addr
  fd_require_slots : FuncData
  F_require_slots : FnP K "require_slots" "require_slots" s_require_slots a_require_slots fd_require_slots
  b_require_slots : Binds K fd_require_slots ["value"] []
  g_require_slots : mg "require_slots" = some (.ref a_require_slots)
  a_require_task : Addr
  fd_require_task : FuncData
  F_require_task : FnP K "require_task" "require_task" s_require_task a_require_task fd_require_task
  b_require_task : Binds K fd_require_task ["length", "slots"] []
  g_require_task : mg "require_task" = some (.ref a_require_task)
  a_reach_of : Addr
  fd_reach_of : FuncData
  F_reach_of : FnP K "reach_of" "reach_of" s_reach_of a_reach_of fd_reach_of
  b_reach_of : Binds K fd_reach_of ["slots", "rounds"] []
  g_reach_of : mg "reach_of" = some (.ref a_reach_of)
  a_rounds_of : Addr
  fd_rounds_of : FuncData
  F_rounds_of : FnP K "rounds_of" "rounds_of" s_rounds_of a_rounds_of fd_rounds_of
  b_rounds_of : Binds K fd_rounds_of ["length", "slots"] []
  g_rounds_of : mg "rounds_of" = some (.ref a_rounds_of)
  a_steps_with : Addr
  fd_steps_with : FuncData
  F_steps_with : FnP K "steps_with" "steps_with" s_steps_with a_steps_with fd_steps_with
  b_steps_with : Binds K fd_steps_with ["length", "slots", "rounds"] []
  g_steps_with : mg "steps_with" = some (.ref a_steps_with)
  a_least_of : Addr
  fd_least_of : FuncData
  F_least_of : FnP K "least_of" "least_of" s_least_of a_least_of fd_least_of
  b_least_of : Binds K fd_least_of ["length", "slots"] []
  g_least_of : mg "least_of" = some (.ref a_least_of)
  a_least_steps : Addr
  fd_least_steps : FuncData
  F_least_steps : FnP K "least_steps" "least_steps" s_least_steps a_least_steps fd_least_steps
  b_least_steps : Binds K fd_least_steps ["length", "slots"] []
  g_least_steps : mg "least_steps" = some (.ref a_least_steps)
  a_is_operation : Addr
  fd_is_operation : FuncData
  F_is_operation : FnP K "is_operation" "is_operation" s_is_operation a_is_operation fd_is_operation
  b_is_operation : Binds K fd_is_operation ["value"] []
  g_is_operation : mg "is_operation" = some (.ref a_is_operation)
  a_require_operations : Addr
  fd_require_operations : FuncData
  F_require_operations : FnP K "require_operations" "require_operations" s_require_operations a_require_operations fd_require_operations
  b_require_operations : Binds K fd_require_operations ["value"] []
  g_require_operations : mg "require_operations" = some (.ref a_require_operations)
  a_Trace___init__ : Addr
  fd_Trace___init__ : FuncData
  F_Trace___init__ : FnP K "__init__" "Trace.__init__" s_Trace___init__ a_Trace___init__ fd_Trace___init__
  b_Trace___init__ : Binds K fd_Trace___init__ ["self", "length", "slots"] []
  a_Trace_hand : Addr
  fd_Trace_hand : FuncData
  F_Trace_hand : FnP K "hand" "Trace.hand" s_Trace_hand a_Trace_hand fd_Trace_hand
  b_Trace_hand : Binds K fd_Trace_hand ["self"] []
  a_Trace_kept : Addr
  fd_Trace_kept : FuncData
  F_Trace_kept : FnP K "kept" "Trace.kept" s_Trace_kept a_Trace_kept fd_Trace_kept
  b_Trace_kept : Binds K fd_Trace_kept ["self"] []
  a_Trace_steps : Addr
  fd_Trace_steps : FuncData
  F_Trace_steps : FnP K "steps" "Trace.steps" s_Trace_steps a_Trace_steps fd_Trace_steps
  b_Trace_steps : Binds K fd_Trace_steps ["self"] []
  a_Trace_backs : Addr
  fd_Trace_backs : FuncData
  F_Trace_backs : FnP K "backs" "Trace.backs" s_Trace_backs a_Trace_backs fd_Trace_backs
  b_Trace_backs : Binds K fd_Trace_backs ["self"] []
  a_Trace_copied : Addr
  fd_Trace_copied : FuncData
  F_Trace_copied : FnP K "copied" "Trace.copied" s_Trace_copied a_Trace_copied fd_Trace_copied
  b_Trace_copied : Binds K fd_Trace_copied ["self"] []
  a_Trace_can_do : Addr
  fd_Trace_can_do : FuncData
  F_Trace_can_do : FnP K "can_do" "Trace.can_do" s_Trace_can_do a_Trace_can_do fd_Trace_can_do
  b_Trace_can_do : Binds K fd_Trace_can_do ["self", "operation"] []
  a_Trace_do : Addr
  fd_Trace_do : FuncData
  F_Trace_do : FnP K "do" "Trace.do" s_Trace_do a_Trace_do fd_Trace_do
  b_Trace_do : Binds K fd_Trace_do ["self", "operation"] []
  a_require_list : Addr
  fd_require_list : FuncData
  F_require_list : FnP K "require_list" "require_list" s_require_list a_require_list fd_require_list
  b_require_list : Binds K fd_require_list ["length", "slots", "operations"] []
  g_require_list : mg "require_list" = some (.ref a_require_list)
  a_wrong_of : Addr
  fd_wrong_of : FuncData
  F_wrong_of : FnP K "wrong_of" "wrong_of" s_wrong_of a_wrong_of fd_wrong_of
  b_wrong_of : Binds K fd_wrong_of ["length", "slots", "operations"] []
  g_wrong_of : mg "wrong_of" = some (.ref a_wrong_of)
  a_traces_of : Addr
  fd_traces_of : FuncData
  F_traces_of : FnP K "traces_of" "traces_of" s_traces_of a_traces_of fd_traces_of
  b_traces_of : Binds K fd_traces_of ["length", "slots", "operations"] []
  g_traces_of : mg "traces_of" = some (.ref a_traces_of)
  a_first_wrong : Addr
  fd_first_wrong : FuncData
  F_first_wrong : FnP K "first_wrong" "first_wrong" s_first_wrong a_first_wrong fd_first_wrong
  b_first_wrong : Binds K fd_first_wrong ["length", "slots", "operations"] []
  g_first_wrong : mg "first_wrong" = some (.ref a_first_wrong)
  a_steps_of : Addr
  fd_steps_of : FuncData
  F_steps_of : FnP K "steps_of" "steps_of" s_steps_of a_steps_of fd_steps_of
  b_steps_of : Binds K fd_steps_of ["length", "slots", "operations"] []
  g_steps_of : mg "steps_of" = some (.ref a_steps_of)
  a_backs_of : Addr
  fd_backs_of : FuncData
  F_backs_of : FnP K "backs_of" "backs_of" s_backs_of a_backs_of fd_backs_of
  b_backs_of : Binds K fd_backs_of ["length", "slots", "operations"] []
  g_backs_of : mg "backs_of" = some (.ref a_backs_of)
  a_extra_steps : Addr
  fd_extra_steps : FuncData
  F_extra_steps : FnP K "extra_steps" "extra_steps" s_extra_steps a_extra_steps fd_extra_steps
  b_extra_steps : Binds K fd_extra_steps ["length", "slots", "operations"] []
  g_extra_steps : mg "extra_steps" = some (.ref a_extra_steps)
  a_most_kept : Addr
  fd_most_kept : FuncData
  F_most_kept : FnP K "most_kept" "most_kept" s_most_kept a_most_kept fd_most_kept
  b_most_kept : Binds K fd_most_kept ["length", "slots", "operations"] []
  g_most_kept : mg "most_kept" = some (.ref a_most_kept)
  a_times_in : Addr
  fd_times_in : FuncData
  F_times_in : FnP K "times_in" "times_in" s_times_in a_times_in fd_times_in
  b_times_in : Binds K fd_times_in ["length", "slots", "operations", "step"] []
  g_times_in : mg "times_in" = some (.ref a_times_in)
  a_kept_behind : Addr
  fd_kept_behind : FuncData
  F_kept_behind : FnP K "kept_behind" "kept_behind" s_kept_behind a_kept_behind fd_kept_behind
  b_kept_behind : Binds K fd_kept_behind ["length", "slots", "operations"] []
  g_kept_behind : mg "kept_behind" = some (.ref a_kept_behind)
  a_closed_count : Addr
  fd_closed_count : FuncData
  F_closed_count : FnP K "closed_count" "closed_count" s_closed_count a_closed_count fd_closed_count
  b_closed_count : Binds K fd_closed_count ["some"] []
  g_closed_count : mg "closed_count" = some (.ref a_closed_count)
  a_halves_of : Addr
  fd_halves_of : FuncData
  F_halves_of : FnP K "halves_of" "halves_of" s_halves_of a_halves_of fd_halves_of
  b_halves_of : Binds K fd_halves_of ["some"] []
  g_halves_of : mg "halves_of" = some (.ref a_halves_of)
  a_own_operations : Addr
  fd_own_operations : FuncData
  F_own_operations : FnP K "own_operations" "own_operations" s_own_operations a_own_operations fd_own_operations
  b_own_operations : Binds K fd_own_operations ["behind"] []
  g_own_operations : mg "own_operations" = some (.ref a_own_operations)
  a_count_of : Addr
  fd_count_of : FuncData
  F_count_of : FnP K "count_of" "count_of" s_count_of a_count_of fd_count_of
  b_count_of : Binds K fd_count_of ["some"] []
  g_count_of : mg "count_of" = some (.ref a_count_of)
  a_parts_of : Addr
  fd_parts_of : FuncData
  F_parts_of : FnP K "parts_of" "parts_of" s_parts_of a_parts_of fd_parts_of
  b_parts_of : Binds K fd_parts_of ["part"] []
  g_parts_of : mg "parts_of" = some (.ref a_parts_of)
  a_whole_plan : Addr
  fd_whole_plan : FuncData
  F_whole_plan : FnP K "whole_plan" "whole_plan" s_whole_plan a_whole_plan fd_whole_plan
  b_whole_plan : Binds K fd_whole_plan ["length", "slots"] []
  g_whole_plan : mg "whole_plan" = some (.ref a_whole_plan)
  a_row_operation : Addr
  fd_row_operation : FuncData
  F_row_operation : FnP K "row_operation" "row_operation" s_row_operation a_row_operation fd_row_operation
  b_row_operation : Binds K fd_row_operation ["part", "number"] []
  g_row_operation : mg "row_operation" = some (.ref a_row_operation)
  a_operation_of : Addr
  fd_operation_of : FuncData
  F_operation_of : FnP K "operation_of" "operation_of" s_operation_of a_operation_of fd_operation_of
  b_operation_of : Binds K fd_operation_of ["plan", "number"] []
  g_operation_of : mg "operation_of" = some (.ref a_operation_of)
  a_plan_list : Addr
  fd_plan_list : FuncData
  F_plan_list : FnP K "plan_list" "plan_list" s_plan_list a_plan_list fd_plan_list
  b_plan_list : Binds K fd_plan_list ["length", "slots"] []
  g_plan_list : mg "plan_list" = some (.ref a_plan_list)
  a_L_wound : Addr
  fd_L_wound : FuncData
  F_L_wound : FnP K "_law_wound" "_law_wound" s_L_wound a_L_wound fd_L_wound
  b_L_wound : Binds K fd_L_wound ["_law_script", "_law_k"] []
  g_L_wound : mg "_law_wound" = some (.ref a_L_wound)
  a_L_spin : Addr
  fd_L_spin : FuncData
  F_L_spin : FnP K "_law_spin" "_law_spin" s_L_spin a_L_spin fd_L_spin
  b_L_spin : Binds K fd_L_spin ["_law_reel", "_law_many"] []
  g_L_spin : mg "_law_spin" = some (.ref a_L_spin)
  a_L_begin : Addr
  fd_L_begin : FuncData
  F_L_begin : FnP K "_law_begin" "_law_begin" s_L_begin a_L_begin fd_L_begin
  b_L_begin : Binds K fd_L_begin ["_law_reel", "_law_n", "_law_s", "_law_hand", "_law_kept", "_law_wanted"] []
  g_L_begin : mg "_law_begin" = some (.ref a_L_begin)
  a_L_drawn_list : Addr
  fd_L_drawn_list : FuncData
  F_L_drawn_list : FnP K "_law_drawn_list" "_law_drawn_list" s_L_drawn_list a_L_drawn_list fd_L_drawn_list
  b_L_drawn_list : Binds K fd_L_drawn_list ["_law_reel", "_law_n", "_law_s"] []
  g_L_drawn_list : mg "_law_drawn_list" = some (.ref a_L_drawn_list)
  a_L_right : Addr
  fd_L_right : FuncData
  F_L_right : FnP K "_law_right" "_law_right" s_L_right a_L_right fd_L_right
  b_L_right : Binds K fd_L_right ["_law_reel"] []
  g_L_right : mg "_law_right" = some (.ref a_L_right)
  a_law : Addr
  fd_law : FuncData
  F_law : FnP K "law" "law" s_law a_law fd_law
  b_law : Binds K fd_law ["_law_script"] []
  g_law : mg "law" = some (.ref a_law)
  n_isinstance : mg "isinstance" = none
  n_int : mg "int" = none
  n_bool : mg "bool" = none
  n_range : mg "range" = none
  n_tuple : mg "tuple" = none
  n_str : mg "str" = none
  n_len : mg "len" = none
  n_list : mg "list" = none
  n_enumerate : mg "enumerate" = none
  n_property : mg "property" = none
  n_sorted : mg "sorted" = none
  n_max : mg "max" = none
  n_zip : mg "zip" = none
  n_min : mg "min" = none
  n_divmod : mg "divmod" = none
  n_sum : mg "sum" = none
  t_MOST_LENGTH : Tok
  c_MOST_LENGTH : mg "MOST_LENGTH" = some (.int 1000000000000000000000000000000 t_MOST_LENGTH)
  t_MOST_SLOTS : Tok
  c_MOST_SLOTS : mg "MOST_SLOTS" = some (.int 100 t_MOST_SLOTS)
  g_WORDS : mg "WORDS" = some (.ref (He.ga K "WORDS"))
  wd_WORDS : WordD K w (He.ga K "WORDS") [("go", .int 1), ("keep", .non), ("take", .int 0), ("free", .int 0), ("back", .non)]
  t_MOST_OPERATIONS : Tok
  c_MOST_OPERATIONS : mg "MOST_OPERATIONS" = some (.int 400 t_MOST_OPERATIONS)
  t_MOST_ROUNDS : Tok
  c_MOST_ROUNDS : mg "MOST_ROUNDS" = some (.int 1000 t_MOST_ROUNDS)
  t_MOST_LISTED : Tok
  c_MOST_LISTED : mg "MOST_LISTED" = some (.int 400 t_MOST_LISTED)
  er : ErrI K mg [0, 3, 4, 5, 7, 8, 11, 17]
  sy : (K.lookup sysModules).isSome = true
  c_Trace : Cls K (He.ga K "Trace")
  g_Trace : mg "Trace" = some (.ref (He.ga K "Trace"))
  n_Trace_own_length : NoAttr K (He.ga K "Trace") "own_length"
  n_Trace_own_slots : NoAttr K (He.ga K "Trace") "own_slots"
  n_Trace_own_hand : NoAttr K (He.ga K "Trace") "own_hand"
  n_Trace_own_kept : NoAttr K (He.ga K "Trace") "own_kept"
  n_Trace_own_steps : NoAttr K (He.ga K "Trace") "own_steps"
  n_Trace_own_backs : NoAttr K (He.ga K "Trace") "own_backs"
  k_Trace : Mk K (He.ga K "Trace") a_Trace___init__
  m_Trace_copied : Meth K (He.ga K "Trace") "copied" a_Trace_copied
  m_Trace_can_do : Meth K (He.ga K "Trace") "can_do" a_Trace_can_do
  m_Trace_do : Meth K (He.ga K "Trace") "do" a_Trace_do
  pa_Trace_hand : Addr
  p_Trace_hand : PropOf K (He.ga K "Trace") "hand" pa_Trace_hand a_Trace_hand
  pa_Trace_kept : Addr
  p_Trace_kept : PropOf K (He.ga K "Trace") "kept" pa_Trace_kept a_Trace_kept
  pa_Trace_steps : Addr
  p_Trace_steps : PropOf K (He.ga K "Trace") "steps" pa_Trace_steps a_Trace_steps
  pa_Trace_backs : Addr
  p_Trace_backs : PropOf K (He.ga K "Trace") "backs" pa_Trace_backs a_Trace_backs
  i_0 : InitF K (eC K 0) a_InvalidOperations___init__ "item"
  i_3 : InitF K (eC K 3) a_CannotDo___init__ "operation"
  i_4 : InitF K (eC K 4) a_TooLarge___init__ "limit"
  i_5 : InitF K (eC K 5) a_TooDeep___init__ "rounds"
theorem scal_ii {i j : Int} : scal (.int i) (.int j) = true := rfl
theorem scal_bb {i j : Bool} : scal (.bl i) (.bl j) = true := rfl
theorem scal_ss {i j : Str} : scal (.str i) (.str j) = true := rfl
theorem scal_nn : scal .non .non = true := rfl
theorem scal_ni {j : Int} : scal .non (.int j) = true := rfl
theorem scal_in {j : Int} : scal (.int j) .non = true := rfl
theorem scal_ns {j : Str} : scal .non (.str j) = true := rfl
theorem scal_sn {j : Str} : scal (.str j) .non = true := rfl
theorem scal_nb {j : Bool} : scal .non (.bl j) = true := rfl
theorem scal_bn {j : Bool} : scal (.bl j) .non = true := rfl
theorem cxOf_K {C : CXT} {P : Program} {w : World} {K : PySem.W.Frag} {mg : Str → Option Value} {base : Heap} {N : List Str} {q : Str} {sc : Scope} {f : Addr} {cd : Value} {A : Around} {o : List Env} {s : Shared} {H : Hp} {E : XK} : (cxOf C P w K mg base N q sc f cd A o s H E).K = K := rfl
local macro_rules | `(tactic| walk_at "rd") => `(tactic| simp only [L2.start, List.map_cons, List.map_nil, List.length_cons, List.length_nil, Nat.reduceAdd, Nat.reduceSub, Nat.zero_add, List.replicate, List.cons_append, List.nil_append,
  cxOf_K, tSeq, tAsg, gName, tVar, tC, tOp, tUn, rI, rI0, rU, tCB, tCons, tNil, tIfS, StX.tStar, sDPut, tDGet, tLstRg, tTupRg, tRg1, tRg2, tTest, tB, tAnd, tOr, tNot, tAndV, tOrV, tNotV, tIf, tRet, tRetN, tDrop, tNext, tBreak, tCont, tNever, tPar, tPar3, tChain3, decide_false, decide_true, rMin3, rMax3, tAug, ipI, tChain, gTup, gTupT, tBM, tBM0, rAppend, tyV_list, rMin, rMax, gCons, gNil, tTup, tLst, tCall, tCallS, WE, tTryV, wAsV, tMkV, tMkI, tMatch, tCase, tMeth, tMake, tProp, tFld, sFld, sFldAug, tRemX, L2.rAdd, L2.rSub, gSub,
  rSetL, rIxL, rIxT, rIxLT, rIxTT, CPowC, sizeLine_eq, Nat.reduceLeDiff, gt_iff_lt, ge_iff_le, Int.reduceMod, Int.reduceDiv, atI_0, atI_1, atI_2, atI_3, atI_4, atI_5, ixN_30, ixN_31, ixN_32, upd_same, HO.lst.injEq, HO.tup.injEq, HO.ins.injEq, Int.reduceLE, Int.reduceLT, rEq, rNe, sp0, sp1, sp2, sp3, sp4, sp5, tNoPart, tPart, tSl, scal_ii, scal_bb, scal_ss, scal_nn, scal_ni, scal_in, scal_ns, scal_sn, scal_nb, scal_bn, rRep, rCat, rReprD, rReprI, rLenQ, rSlL, rSlT, rEqF, rNeF,
  List.append_nil, List.getElem?_cons_zero, List.getElem?_cons_succ, List.set_cons_zero, List.set_cons_succ, List.set_nil,
  Option.some.injEq, V.int.injEq, V.bl.injEq, V.str.injEq, V.ref.injEq, V.ty.injEq, List.cons.injEq, and_true, true_and, exists_eq_left', exists_eq_left, exists_eq_right, exists_and_left, eq_self, exists_eq, exists_eq', and_assoc,
  decide_eq_true_eq, Bool.not_eq_true', Bool.not_eq_true, decide_eq_false_iff_not, Bool.false_eq_true, if_true, if_false, ite_true, ite_false, Bool.not_true, Bool.not_false, not_true_eq_false, not_false_eq_true, Bool.true_eq_false, ↓reduceIte,
  Int.reduceToNat, Int.reducePow, Int.reduceAdd, Int.reduceMul, Int.reduceNeg, Int.reduceSub, reduceCtorEq, false_and, and_false, exists_false, false_or, or_false])
local macro_rules | `(tactic| walk_at "ar") => `(tactic| first | omega | (have hB := big_200; first | omega | (unfold CMulB; omega) | (unfold CDivB; omega) | (unfold CPowW; omega)) | decide)
theorem nox_K {X : Cx} : X.nox.K = X.K := rfl
local macro_rules | `(tactic| walk_at "rd") => `(tactic| simp only [L2.start, List.map_cons, List.map_nil, List.length_cons, List.length_nil, Nat.reduceAdd, Nat.reduceSub, Nat.zero_add, List.replicate, List.cons_append, List.nil_append,
  cxOf_K, nox_K, tMethD, tMethDS, tPropD, rEqI, tRevL, tSeq, tAsg, gName, tVar, tC, tOp, tUn, rI, rI0, rU, tCB, tCons, tNil, tIfS, StX.tStar, sDPut, tDGet, tLstRg, tTupRg, tRg1, tRg2, tTest, tB, tAnd, tOr, tNot, tAndV, tOrV, tNotV, tIf, tRet, tRetN, tDrop, tNext, tBreak, tCont, tNever, tPar, tPar3, tChain3, decide_false, decide_true, rMin3, rMax3, tAug, ipI, tChain, gTup, gTupT, tBM, tBM0, rAppend, tyV_list, rMin, rMax, gCons, gNil, tTup, tLst, tCall, tCallS, WE, tTryV, wAsV, tMkV, tMkI, tMatch, tCase, tMeth, tMake, tProp, tFld, sFld, sFldAug, tRemX, L2.rAdd, L2.rSub, gSub,
  rSetL, rIxL, rIxT, rIxLT, rIxTT, CPowC, sizeLine_eq, Nat.reduceLeDiff, gt_iff_lt, ge_iff_le, Int.reduceMod, Int.reduceDiv, atI_0, atI_1, atI_2, atI_3, atI_4, atI_5, ixN_30, ixN_31, ixN_32, upd_same, HO.lst.injEq, HO.tup.injEq, HO.ins.injEq, Int.reduceLE, Int.reduceLT, rEq, rNe, sp0, sp1, sp2, sp3, sp4, sp5, tNoPart, tPart, tSl, scal_ii, scal_bb, scal_ss, scal_nn, scal_ni, scal_in, scal_ns, scal_sn, scal_nb, scal_bn, rRep, rCat, rReprD, rReprI, rLenQ, rSlL, rSlT, rEqF, rNeF,
  List.append_nil, List.getElem?_cons_zero, List.getElem?_cons_succ, List.set_cons_zero, List.set_cons_succ, List.set_nil,
  Option.some.injEq, V.int.injEq, V.bl.injEq, V.str.injEq, V.ref.injEq, V.ty.injEq, List.cons.injEq, and_true, true_and, exists_eq_left', exists_eq_left, exists_eq_right, exists_and_left, eq_self, exists_eq, exists_eq', and_assoc,
  decide_eq_true_eq, Bool.not_eq_true', Bool.not_eq_true, decide_eq_false_iff_not, Bool.false_eq_true, if_true, if_false, ite_true, ite_false, Bool.not_true, Bool.not_false, not_true_eq_false, not_false_eq_true, Bool.true_eq_false, ↓reduceIte,
  Int.reduceToNat, Int.reducePow, Int.reduceAdd, Int.reduceMul, Int.reduceNeg, Int.reduceSub, reduceCtorEq, false_and, and_false, exists_false, false_or, or_false])
/-! ### the plan as a list, and the goes that cut a step (k22) -/
def rowL (n b : Int) : Nat → List Op
  | 0 => [.back]
  | k + 1 => .go (k + 1 : Nat) :: .back :: .take b :: rowL n b k
def opsL (n s b : Int) : List Op :=
  if h : 2 ≤ n ∧ 2 ≤ s then
    .go (hiz n s) :: ((if kp n s = 1 then [.keep] else []) ++ opsL (n - hiz n s) (s - 1) (b + hiz n s) ++ (if kp n s = 1 then [.free (b + hiz n s)] else []) ++ .take b :: opsL (hiz n s) s b)
  else rowL n b (n - 1).toNat
termination_by n.toNat
decreasing_by all_goals (have := loz_range h.1 h.2; omega)
theorem opsL_row {n s b : Int} (h : n < 2 ∨ s < 2) : opsL n s b = rowL n b (n - 1).toNat := by rw [opsL, dif_neg (by omega)]
theorem opsL_two {n s b : Int} (hn : 2 ≤ n) (hs : 2 ≤ s) : opsL n s b = .go (hiz n s) :: ((if kp n s = 1 then [.keep] else []) ++ opsL (n - hiz n s) (s - 1) (b + hiz n s) ++ (if kp n s = 1 then [.free (b + hiz n s)] else []) ++ .take b :: opsL (hiz n s) s b) := by
  rw [opsL, dif_pos ⟨hn, hs⟩]
theorem rowL_len (n b : Int) : ∀ k : Nat, ((rowL n b k).length : Int) = 3 * k + 1
  | 0 => rfl
  | k + 1 => by
    have := rowL_len n b k
    show (((rowL n b k).length + 1 + 1 + 1 : Nat) : Int) = _
    omega
theorem opsL_len : ∀ n s : Int, 1 ≤ n → 1 ≤ s → ∀ b, ((opsL n s b).length : Int) = opsN n s := by
  refine plan_ind (fun n s hn hs h b => ?_) fun n s hn hs ih1 ih2 b => ?_
  · rw [opsL_row h, rowL_len, opsN_row h]
    omega
  · have a := ih1 (b + hiz n s)
    have c := ih2 b
    have k01 := kp_01 n s
    rw [opsL_two hn hs, opsN_kp hn hs]
    simp only [List.length_cons, List.length_append]
    rcases k01 with k | k
    · rw [if_neg (by omega), if_neg (by omega), k]
      simp only [List.length_nil]
      omega
    · rw [if_pos k, if_pos k, k]
      simp only [List.length_cons, List.length_nil]
      omega
/-- goes: place, from, to; the hand before -/
def goesP : List Op → Int → Int → List (Int × Int × Int)
  | [], _, _ => []
  | .go k :: r, c, d => (c, d, d + k) :: goesP r (c + 1) (d + k)
  | .take m :: r, c, _ => goesP r (c + 1) m
  | _ :: r, c, d => goesP r (c + 1) d
def handP : List Op → Int → Int
  | [], d => d
  | .go k :: r, d => handP r (d + k)
  | .take m :: r, _ => handP r m
  | _ :: r, d => handP r d
theorem goesP_app : ∀ (l r : List Op) (c d : Int), goesP (l ++ r) c d = goesP l c d ++ goesP r (c + l.length) (handP l d)
  | [], r, c, d => by show goesP r c d = [] ++ goesP r (c + 0) d; rw [Int.add_zero]; rfl
  | o :: l, r, c, d => by
    have e : c + ((o :: l).length : Int) = c + 1 + (l.length : Int) := by rw [List.length_cons]; omega
    rw [e]
    cases o with
    | go k => exact congrArg _ (goesP_app l r (c + 1) (d + k))
    | take m => exact goesP_app l r (c + 1) m
    | keep => exact goesP_app l r (c + 1) d
    | free m => exact goesP_app l r (c + 1) d
    | back => exact goesP_app l r (c + 1) d
/-- the places of the goes that cut the step x -/
def cutP (x : Int) (g : List (Int × Int × Int)) : List Int := (g.filter fun g => decide (g.2.1 ≤ x ∧ x < g.2.2)).map fun g => g.1
def runG (g : Int × Int × Int) : List Int := (List.range g.2.1.toNat).map fun (j : Nat) => g.1 + (j : Int) * g.2.2
theorem cutP_app (x : Int) (a b : List (Int × Int × Int)) : cutP x (a ++ b) = cutP x a ++ cutP x b := by
  unfold cutP
  rw [List.filter_append, List.map_append]
theorem cutP_nil (x : Int) : cutP x [] = [] := rfl
theorem cutP_yes {x c d e : Int} {g : List (Int × Int × Int)} (h : d ≤ x ∧ x < e) : cutP x ((c, d, e) :: g) = c :: cutP x g := by
  unfold cutP
  rw [List.filter_cons_of_pos (by exact decide_eq_true h)]
  rfl
theorem cutP_no {x c d e : Int} {g : List (Int × Int × Int)} (h : ¬ (d ≤ x ∧ x < e)) : cutP x ((c, d, e) :: g) = cutP x g := by
  unfold cutP
  rw [List.filter_cons_of_neg (by rw [decide_eq_false h]; exact Bool.false_ne_true)]
theorem goes_rowL (n b c : Int) (k : Nat) : goesP (rowL n b (k + 1)) c b = (c, b, b + ((k + 1 : Nat) : Int)) :: goesP (rowL n b k) (c + 1 + 1 + 1) b := rfl
theorem row_none {n b x : Int} (h : x < b) : ∀ (k : Nat) (c : Int), cutP x (goesP (rowL n b k) c b) = []
  | 0, c => rfl
  | k + 1, c => by rw [goes_rowL, cutP_no (by omega), row_none h k]
theorem row_cut {n b x : Int} (h : b ≤ x) : ∀ (k : Nat) (c : Int), cutP x (goesP (rowL n b k) c b) = (List.range (k - (x - b).toNat)).map fun (j : Nat) => c + (j : Int) * 3
  | 0, c => by rw [Nat.zero_sub]; rfl
  | k + 1, c => by
    rw [goes_rowL]
    by_cases q : (x - b).toNat ≤ k
    · rw [cutP_yes (by omega), row_cut h k, show k + 1 - (x - b).toNat = (k - (x - b).toNat) + 1 by omega, List.range_succ_eq_map, List.map_cons, List.map_map]
      congr 1
      · omega
      · refine List.map_congr_left fun j _ => ?_
        show c + 1 + 1 + 1 + (j : Int) * 3 = c + ((j + 1 : Nat) : Int) * 3
        omega
    · rw [cutP_no (by omega), row_cut h k, show k + 1 - (x - b).toNat = 0 by omega, show k - (x - b).toNat = 0 by omega]
      rfl
/-- the goes of a plan of two parts -/
theorem goes_two {n s b c : Int} (hn : 2 ≤ n) (hs : 2 ≤ s) : goesP (opsL n s b) c b = (c, b, b + hiz n s) :: (goesP (opsL (n - hiz n s) (s - 1) (b + hiz n s)) (c + (1 + kp n s)) (b + hiz n s) ++ goesP (opsL (hiz n s) s b) (c + (2 + 2 * kp n s + opsN (n - hiz n s) (s - 1))) b) := by
  obtain ⟨l1, l2, l3⟩ := loz_range hn hs
  have len := opsL_len (n - hiz n s) (s - 1) (by omega) (by omega) (b + hiz n s)
  rw [opsL_two hn hs]
  show (c, b, b + hiz n s) :: goesP (_ ++ _) (c + 1) (b + hiz n s) = _
  rw [goesP_app, goesP_app, goesP_app]
  congr 1
  rcases kp_01 n s with k | k
  · rw [if_neg (by omega), if_neg (by omega), k]
    show ([] ++ goesP _ (c + 1 + 0) (b + hiz n s)) ++ [] ++ goesP _ (_ + 1) b = _
    rw [List.append_nil, List.nil_append]
    congr 2
    · omega
    · simp only [List.length_append, List.length_nil]
      omega
  · rw [if_pos k, if_pos k, k]
    show ([] ++ goesP _ (c + 1 + 1) (b + hiz n s)) ++ [] ++ goesP _ (_ + 1) b = _
    rw [List.append_nil, List.nil_append]
    congr 2
    · omega
    · simp only [List.length_append, List.length_cons, List.length_nil]
      omega
theorem cut_none : ∀ n s : Int, 1 ≤ n → 1 ≤ s → ∀ b c x, (x < b ∨ b + n - 1 ≤ x) → cutP x (goesP (opsL n s b) c b) = [] := by
  refine plan_ind (fun n s hn hs h b c x hx => ?_) fun n s hn hs ih1 ih2 b c x hx => ?_
  · rw [opsL_row h]
    by_cases q : x < b
    · exact row_none q _ _
    · rw [row_cut (by omega), show (n - 1).toNat - (x - b).toNat = 0 by omega]
      rfl
  · obtain ⟨l1, l2, l3⟩ := loz_range hn hs
    rw [goes_two hn hs, cutP_no (by omega), cutP_app, ih1 _ _ _ (by omega), ih2 _ _ _ (by omega)]
    rfl
theorem cut_plan : ∀ n s : Int, 1 ≤ n → 1 ≤ s → ∀ b c x, b ≤ x → x < b + n - 1 → cutP x (goesP (opsL n s b) c b) = (goesL n s (x - b) c).flatMap runG := by
  refine plan_ind (fun n s hn hs h b c x h0 h1 => ?_) fun n s hn hs ih1 ih2 b c x h0 h1 => ?_
  · rw [opsL_row h, row_cut h0, goesL_row h]
    show _ = runG (c, n - 1 - (x - b), 3) ++ []
    rw [List.append_nil]
    unfold runG
    rw [show (n - 1).toNat - (x - b).toNat = (n - 1 - (x - b)).toNat by omega]
  · obtain ⟨l1, l2, l3⟩ := loz_range hn hs
    rw [goes_two hn hs]
    by_cases q : hiz n s ≤ x - b
    · rw [cutP_no (by omega), cutP_app, ih1 _ _ _ (by omega) (by omega), cut_none _ _ (by omega) (by omega) _ _ _ (by omega), List.append_nil, goesL_two hn hs, if_pos q]
      congr 2
      omega
    · rw [cutP_yes (by omega), cutP_app, cut_none _ _ (by omega) (by omega) _ _ _ (by omega), List.nil_append, goesL_two hn hs, if_neg q, List.flatMap_cons]
      have e : runG (c, 1, 0) = [c] := by
        unfold runG
        show [c + ((0 : Nat) : Int) * 0] = [c]
        rw [Int.mul_zero, Int.add_zero]
      rw [e]
      show c :: _ = c :: _
      congr 1
      by_cases z : x - b = hiz n s - 1
      · rw [if_pos z, cut_none _ _ (by omega) (by omega) _ _ _ (by omega)]
        rfl
      · rw [if_neg z, ih2 _ _ _ (by omega) (by omega)]
        rfl
/-- the k-th of the runs -/
theorem pick_flat : ∀ (gs : List (Int × Int × Int)), (∀ g ∈ gs, 0 ≤ g.2.1) → ∀ k : Nat, pickG gs (k : Int) = (gs.flatMap runG)[k]?
  | [], _, k => rfl
  | g :: gs, h, k => by
    have h0 := h g (List.mem_cons_self ..)
    have hl : (runG g).length = g.2.1.toNat := by unfold runG; rw [List.length_map, List.length_range]
    unfold pickG
    rw [List.flatMap_cons]
    by_cases q : (k : Int) < g.2.1
    · rw [if_pos q, List.getElem?_append_left (by omega)]
      unfold runG
      rw [List.getElem?_map, List.getElem?_range (by omega)]
      rfl
    · rw [if_neg q, List.getElem?_append_right (by omega), hl, show (k : Int) - g.2.1 = ((k - g.2.1.toNat : Nat) : Int) by omega]
      exact pick_flat gs (fun g hg => h g (List.mem_cons_of_mem _ hg)) _
theorem goes_pos : ∀ n s : Int, 1 ≤ n → 1 ≤ s → ∀ x c, x ≤ n - 1 → ∀ g ∈ goesL n s x c, 0 ≤ g.2.1 := by
  refine plan_ind (fun n s hn hs h x c hx g hg => ?_) fun n s hn hs ih1 ih2 x c hx g hg => ?_
  · rw [goesL_row h] at hg
    rw [List.mem_singleton.mp hg]
    show 0 ≤ n - 1 - x
    omega
  · rw [goesL_two hn hs] at hg
    split at hg
    · exact ih1 _ _ (by omega) g hg
    · rcases List.mem_cons.mp hg with rfl | hg
      · show (0 : Int) ≤ 1
        decide
      · split at hg
        · cases hg
        · exact ih2 _ _ (by omega) g hg
/-- what the law's own list tells, and what go_at and times_done tell -/
theorem spots_at {n s x : Int} (hn : 1 ≤ n) (hs : 1 ≤ s) (h0 : 0 ≤ x) (h1 : x < n - 1) (k : Nat) : goAt n s x (k : Int) = (cutP x (goesP (opsL n s 0) 0 0))[k]? := by
  have := cut_plan n s hn hs 0 0 x h0 (by omega)
  rw [Int.sub_zero] at this
  rw [this]
  exact pick_flat _ (goes_pos n s hn hs x 0 (by omega)) k
theorem flat_len : ∀ (gs : List (Int × Int × Int)), (∀ g ∈ gs, 0 ≤ g.2.1) → ((gs.flatMap runG).length : Int) = (gs.map fun g => g.2.1).sum
  | [], _ => rfl
  | g :: gs, h => by
    have h0 := h g (List.mem_cons_self ..)
    have hl : (runG g).length = g.2.1.toNat := by unfold runG; rw [List.length_map, List.length_range]
    have ih := flat_len gs fun g hg => h g (List.mem_cons_of_mem _ hg)
    rw [List.flatMap_cons, List.length_append, List.map_cons, List.sum_cons, hl, ← ih]
    omega
theorem spots_len {n s x : Int} (hn : 1 ≤ n) (hs : 1 ≤ s) (h0 : 0 ≤ x) (h1 : x < n - 1) : ((cutP x (goesP (opsL n s 0) 0 0)).length : Int) = timesD n s x := by
  have := cut_plan n s hn hs 0 0 x h0 (by omega)
  rw [Int.sub_zero] at this
  rw [this, flat_len _ (goes_pos n s hn hs x 0 (by omega)), goes_sum n s hn hs]
/-- where the most goes are -/
theorem most_is : ∀ n s : Int, 1 ≤ n → 1 ≤ s → 2 ≤ n → ∀ b, 0 ≤ mostAt n s b - b ∧ mostAt n s b - b < n - 1 ∧ timesD n s (mostAt n s b - b) = rho n s ∧ ∀ x, 0 ≤ x → x < mostAt n s b - b → timesD n s x < rho n s := by
  refine plan_ind (fun n s hn hs h h2 b => ?_) fun n s hn hs ih1 ih2 _ b => ?_
  · have e : s = 1 := by omega
    subst e
    rw [mostAt_row h, Int.sub_self, timesD_row h, rho_slot1 hn]
    exact ⟨Int.le_refl _, by omega, by omega, fun x h0 h1 => by omega⟩
  · obtain ⟨l1, l2, l3⟩ := loz_range hn hs
    obtain ⟨r1, r2, r3⟩ := rounds_max hn hs
    have rp := rho_pos (n := n) (s := s) hn (by omega)
    have ra : 2 ≤ hiz n s → 1 ≤ rho (hiz n s) s := fun h => rho_pos h (by omega)
    have ta := times_in (hiz n s) s (by omega) (by omega)
    have lo : ∀ x, 0 ≤ x → x < hiz n s → ¬ (hiz n s > 1 ∧ rho (hiz n s) s = rho n s - 1) → ¬ (rho n s = 1 ∧ hiz n s = 1) → timesD n s x < rho n s := fun x x0 x1 c1 c2 => by
      rw [timesD_two hn hs, if_neg (by omega)]
      split
      · by_cases q : 2 ≤ hiz n s
        · have := ra q
          omega
        · omega
      · have := (ta x x0 (by omega)).2
        omega
    rw [mostAt_two hn hs]
    by_cases c1 : hiz n s > 1 ∧ rho (hiz n s) s = rho n s - 1
    · rw [if_pos c1]
      obtain ⟨m0, m1, m2, m3⟩ := ih2 (by omega) b
      refine ⟨m0, by omega, ?_, fun x x0 x1 => ?_⟩
      · rw [timesD_two hn hs, if_neg (by omega), if_neg (by omega), m2]
        omega
      · rw [timesD_two hn hs, if_neg (by omega), if_neg (by omega)]
        have := m3 x x0 x1
        omega
    · rw [if_neg c1]
      by_cases c2 : rho n s = 1 ∧ hiz n s = 1
      · rw [if_pos c2, Int.sub_self]
        refine ⟨Int.le_refl _, by omega, ?_, fun x x0 x1 => by omega⟩
        rw [timesD_two hn hs, if_neg (by omega), if_pos (by omega)]
        omega
      · rw [if_neg c2]
        have rr := most_rest hn hs c1 c2
        have n2 : 2 ≤ n - hiz n s := Classical.byContradiction fun q => by
          rw [show n - hiz n s = 1 by omega, rho_one (by omega)] at rr
          omega
        obtain ⟨m0, m1, m2, m3⟩ := ih1 n2 (b + hiz n s)
        refine ⟨by omega, by omega, ?_, fun x x0 x1 => ?_⟩
        · rw [timesD_two hn hs, if_pos (by omega), show mostAt (n - hiz n s) (s - 1) (b + hiz n s) - b - hiz n s = mostAt (n - hiz n s) (s - 1) (b + hiz n s) - (b + hiz n s) by omega, m2, rr]
        · by_cases q : x < hiz n s
          · exact lo x x0 q c1 c2
          · rw [timesD_two hn hs, if_pos (by omega), ← rr]
            exact m3 _ (by omega) (by omega)
/-! the plan as a list, by numbers -/
theorem rowL_at (n b : Int) : ∀ (k i : Nat), i < 3 * k + 1 → (rowL n b k)[i]? = some (rowOp b ((k : Int) + 1) (i : Int))
  | 0, i, h => by
    have : i = 0 := by omega
    subst this
    show some Op.back = _
    unfold rowOp
    rw [if_pos (.inl (by omega))]
  | k + 1, 0, _ => by
    show some (Op.go _) = _
    unfold rowOp
    rw [if_neg (by omega), if_pos (by decide)]
    congr 2
    omega
  | k + 1, 1, _ => by
    show some Op.back = _
    unfold rowOp
    rw [if_pos (.inr (by decide))]
  | k + 1, 2, _ => by
    show some (Op.take b) = _
    unfold rowOp
    rw [if_neg (by omega), if_neg (by decide)]
  | k + 1, i + 3, h => by
    have ih := rowL_at n b k i (by omega)
    show (rowL n b k)[i]? = _
    rw [ih]
    unfold rowOp
    rw [show ((i + 3 : Nat) : Int) / 3 = (i : Int) / 3 + 1 by omega, show ((i + 3 : Nat) : Int) % 3 = (i : Int) % 3 by omega]
    congr 1
    have ek : ((k + 1 : Nat) : Int) = (k : Int) + 1 := by omega
    by_cases h1 : (i : Int) / 3 = (k : Int) + 1 - 1 ∨ (i : Int) % 3 = 1
    · have h1' : (i : Int) / 3 + 1 = ((k + 1 : Nat) : Int) + 1 - 1 ∨ (i : Int) % 3 = 1 := by omega
      rw [if_pos h1, if_pos h1']
    · have h1' : ¬ ((i : Int) / 3 + 1 = ((k + 1 : Nat) : Int) + 1 - 1 ∨ (i : Int) % 3 = 1) := by omega
      rw [if_neg h1, if_neg h1']
      by_cases h2 : (i : Int) % 3 = 0
      · rw [if_pos h2, if_pos h2]
        congr 1
        omega
      · rw [if_neg h2, if_neg h2]
theorem opsL_at : ∀ n s : Int, 1 ≤ n → 1 ≤ s → ∀ (b : Int) (i : Nat), (i : Int) < opsN n s → (opsL n s b)[i]? = some (opAt n s b i) := by
  refine plan_ind (fun n s hn hs h b i hi => ?_) fun n s hn hs ih1 ih2 b i hi => ?_
  · rw [opsN_row h] at hi
    rw [opsL_row h, opAt_row h, rowL_at _ _ _ _ (by omega), show (((n - 1).toNat : Nat) : Int) + 1 = n by omega]
  · obtain ⟨l1, l2, l3⟩ := loz_range hn hs
    have len := opsL_len (n - hiz n s) (s - 1) (by omega) (by omega) (b + hiz n s)
    have ek := opsN_kp hn hs
    have k01 := kp_01 n s
    have og1 := opsN_ge (n - hiz n s) (s - 1) (by omega) (by omega)
    rw [opsL_two hn hs, opAt_two hn hs]
    match i with
    | 0 => rfl
    | i + 1 =>
      rw [List.getElem?_cons_succ, if_neg (show ¬ (((i + 1 : Nat) : Int) = 0) by omega)]
      rcases k01 with k | k
      · have hk : ¬ kp n s = 1 := by omega
        rw [if_neg hk, if_neg hk, List.nil_append, List.append_nil, if_neg (show ¬ (((i + 1 : Nat) : Int) = 1 ∧ kp n s = 1) by omega)]
        by_cases h1 : i < (opsL (n - hiz n s) (s - 1) (b + hiz n s)).length
        · rw [List.getElem?_append_left h1, ih1 _ _ (by omega), if_pos (show ((i + 1 : Nat) : Int) - (1 + kp n s) < opsN (n - hiz n s) (s - 1) by omega)]
          congr 2
          omega
        · rw [List.getElem?_append_right (by omega), if_neg (show ¬ (((i + 1 : Nat) : Int) - (1 + kp n s) < opsN (n - hiz n s) (s - 1)) by omega), if_neg (show ¬ (((i + 1 : Nat) : Int) - (1 + kp n s) = opsN (n - hiz n s) (s - 1) ∧ kp n s = 1) by omega)]
          by_cases h2 : i = (opsL (n - hiz n s) (s - 1) (b + hiz n s)).length
          · rw [if_pos (show ((i + 1 : Nat) : Int) - (1 + kp n s) = opsN (n - hiz n s) (s - 1) + kp n s by omega), h2, Nat.sub_self]
            rfl
          · obtain ⟨j, hj⟩ : ∃ j, i - (opsL (n - hiz n s) (s - 1) (b + hiz n s)).length = j + 1 := ⟨i - (opsL (n - hiz n s) (s - 1) (b + hiz n s)).length - 1, by omega⟩
            rw [if_neg (show ¬ (((i + 1 : Nat) : Int) - (1 + kp n s) = opsN (n - hiz n s) (s - 1) + kp n s) by omega), hj, List.getElem?_cons_succ, ih2 _ _ (by omega)]
            congr 2
            omega
      · rw [if_pos k, if_pos k]
        match i with
        | 0 => rw [if_pos ⟨rfl, k⟩]; rfl
        | i + 1 =>
          have ei : (((i + 1 : Nat) + 1 : Nat) : Int) - (1 + kp n s) = (i : Int) := by omega
          rw [if_neg (show ¬ (((i + 1 + 1 : Nat) : Int) = 1 ∧ kp n s = 1) by omega), ei]
          show ((opsL (n - hiz n s) (s - 1) (b + hiz n s) ++ [.free (b + hiz n s)]) ++ .take b :: opsL (hiz n s) s b)[i]? = _
          rw [List.append_assoc]
          by_cases h1 : i < (opsL (n - hiz n s) (s - 1) (b + hiz n s)).length
          · rw [List.getElem?_append_left h1, ih1 _ _ (by omega), if_pos (show (i : Int) < opsN (n - hiz n s) (s - 1) by omega)]
          · rw [List.getElem?_append_right (by omega), if_neg (show ¬ ((i : Int) < opsN (n - hiz n s) (s - 1)) by omega)]
            by_cases h2 : i = (opsL (n - hiz n s) (s - 1) (b + hiz n s)).length
            · rw [if_pos (show (i : Int) = opsN (n - hiz n s) (s - 1) ∧ kp n s = 1 from ⟨by omega, k⟩), h2, Nat.sub_self]
              rfl
            · rw [if_neg (show ¬ ((i : Int) = opsN (n - hiz n s) (s - 1) ∧ kp n s = 1) by omega)]
              by_cases h3 : i = (opsL (n - hiz n s) (s - 1) (b + hiz n s)).length + 1
              · rw [if_pos (show (i : Int) = opsN (n - hiz n s) (s - 1) + kp n s by omega), h3, show (opsL (n - hiz n s) (s - 1) (b + hiz n s)).length + 1 - (opsL (n - hiz n s) (s - 1) (b + hiz n s)).length = 1 by omega]
                rfl
              · obtain ⟨j, hj⟩ : ∃ j, i - (opsL (n - hiz n s) (s - 1) (b + hiz n s)).length = j + 2 := ⟨i - (opsL (n - hiz n s) (s - 1) (b + hiz n s)).length - 2, by omega⟩
                rw [if_neg (show ¬ ((i : Int) = opsN (n - hiz n s) (s - 1) + kp n s) by omega), hj]
                show (opsL (hiz n s) s b)[j]? = _
                rw [ih2 _ _ (by omega)]
                congr 2
                omega
theorem opsL_all {n s : Int} (hn : 1 ≤ n) (hs : 1 ≤ s) (b : Int) : ((List.range (opsL n s b).length).map fun (i : Nat) => opAt n s b (i : Int)) = opsL n s b := by
  have hl := opsL_len n s hn hs b
  refine List.ext_getElem? fun i => ?_
  rw [List.getElem?_map]
  by_cases h : i < (opsL n s b).length
  · rw [List.getElem?_range h, opsL_at n s hn hs b i (by omega)]
    rfl
  · rw [List.getElem?_eq_none (by rw [List.length_range]; omega), List.getElem?_eq_none (by omega)]
    rfl
theorem opsL_num : ∀ n s : Int, 1 ≤ n → 1 ≤ s → ∀ b, 0 ≤ b → ∀ o ∈ opsL n s b, 0 ≤ o.num ∧ o.num ≤ b + n := by
  refine plan_ind (fun n s hn hs h b hb o ho => ?_) fun n s hn hs ih1 ih2 b hb o ho => ?_
  · rw [opsL_row h] at ho
    have go : ∀ k : Nat, (k : Int) ≤ n - 1 → ∀ o ∈ rowL n b k, 0 ≤ o.num ∧ o.num ≤ b + n := by
      intro k
      induction k with
      | zero => intro _ o ho; rw [List.mem_singleton.mp ho]; show 0 ≤ (0 : Int) ∧ (0 : Int) ≤ b + n; omega
      | succ k ih =>
        intro hk o ho
        rcases List.mem_cons.mp ho with rfl | ho
        · show 0 ≤ ((k + 1 : Nat) : Int) ∧ ((k + 1 : Nat) : Int) ≤ b + n; omega
        rcases List.mem_cons.mp ho with rfl | ho
        · show 0 ≤ (0 : Int) ∧ (0 : Int) ≤ b + n; omega
        rcases List.mem_cons.mp ho with rfl | ho
        · show 0 ≤ b ∧ b ≤ b + n; omega
        exact ih (by omega) o ho
    exact go _ (by omega) o ho
  · obtain ⟨l1, l2, l3⟩ := loz_range hn hs
    rw [opsL_two hn hs] at ho
    rcases List.mem_cons.mp ho with rfl | ho
    · show 0 ≤ hiz n s ∧ hiz n s ≤ b + n; omega
    rcases List.mem_append.mp ho with ho | ho
    · rcases List.mem_append.mp ho with ho | ho
      · rcases List.mem_append.mp ho with ho | ho
        · split at ho
          · rw [List.mem_singleton.mp ho]; show 0 ≤ (0 : Int) ∧ (0 : Int) ≤ b + n; omega
          · cases ho
        · have := ih1 _ (by omega) o ho; omega
      · split at ho
        · rw [List.mem_singleton.mp ho]; show 0 ≤ b + hiz n s ∧ b + hiz n s ≤ b + n; omega
        · cases ho
    · rcases List.mem_cons.mp ho with rfl | ho
      · show 0 ≤ b ∧ b ≤ b + n; omega
      · have := ih2 b hb o ho; omega
/-! ### states of sessions and lists -/
structure TSt where
  n : Int
  s : Int
  hand : Int
  kept : List Int
  steps : Int
  backs : Int
def TSt.can (t : TSt) : Op → Bool
  | .go k => decide (t.hand + k < t.n)
  | .keep => decide (t.hand ∉ t.kept) && decide ((t.kept.length : Int) < t.s)
  | .back => decide (t.backs < t.n) && decide (t.hand = t.n - 1 - t.backs)
  | .take m => decide (m ∈ t.kept)
  | .free m => decide (m ∈ t.kept)
def TSt.did (t : TSt) : Op → TSt
  | .go k => { t with hand := t.hand + k, steps := t.steps + k }
  | .keep => { t with kept := t.kept ++ [t.hand] }
  | .back => { t with backs := t.backs + 1 }
  | .take m => { t with hand := m }
  | .free m => { t with kept := t.kept.erase m }
/-! ### lists of operations, done -/
def TSt.run : TSt → List Op → TSt
  | t, [] => t
  | t, o :: os => TSt.run (t.did o) os
def TSt.ok : TSt → List Op → Prop
  | _, [] => True
  | t, o :: os => t.can o = true ∧ TSt.ok (t.did o) os
theorem run_app : ∀ (a b : List Op) (t : TSt), t.run (a ++ b) = (t.run a).run b
  | [], _, _ => rfl
  | o :: a, b, t => run_app a b (t.did o)
theorem ok_app : ∀ (a b : List Op) (t : TSt), t.ok (a ++ b) ↔ t.ok a ∧ (t.run a).ok b
  | [], _, _ => ⟨fun h => ⟨trivial, h⟩, fun h => h.2⟩
  | o :: a, b, t => by
    show (_ ∧ TSt.ok (t.did o) (a ++ b)) ↔ ((_ ∧ TSt.ok (t.did o) a) ∧ _)
    rw [ok_app a b (t.did o), and_assoc]
    exact Iff.rfl
theorem run_succ {t : TSt} {os : List Op} {i : Nat} {o : Op} (h : os[i]? = some o) : t.run (os.take (i + 1)) = (t.run (os.take i)).did o := by
  obtain ⟨hl, e⟩ := List.getElem?_eq_some_iff.mp h
  rw [List.take_succ_eq_append_getElem hl, run_app, e]
  rfl
theorem ok_at : ∀ {os : List Op} {t : TSt} {i : Nat} {o : Op}, t.ok os → os[i]? = some o → (t.run (os.take i)).can o = true
  | [], t, i, o, _, h => by simp at h
  | a :: os, t, 0, o, k, h => by simp at h; subst h; exact k.1
  | a :: os, t, i + 1, o, k, h => by simp at h; exact ok_at (os := os) k.2 h
theorem run_n : ∀ {os : List Op} {t : TSt}, (t.run os).n = t.n ∧ (t.run os).s = t.s
  | [], t => ⟨rfl, rfl⟩
  | o :: os, t => by
    have h := run_n (os := os) (t := t.did o)
    cases o <;> exact h
/-! where the backs are -/
def But (R : Addr → Prop) (H H' : Hp) : Prop := ∀ b o, ¬ R b → H b = some o → H' b = some o
theorem But.refl {R : Addr → Prop} {H : Hp} : But R H H := fun _ _ _ h => h
theorem But.trans {R : Addr → Prop} {H H1 H2 : Hp} (a : But R H H1) (b : But R H1 H2) : But R H H2 := fun c o n h => b c o n (a c o n h)
theorem But.ex {R : Addr → Prop} {H H1 : Hp} (e : Ex H H1) : But R H H1 := fun c o _ h => e c o h
theorem But.up {R R' : Addr → Prop} {H H1 : Hp} (a : But R H H1) (h : ∀ b, R b → R' b) : But R' H H1 := fun c o n q => a c o (fun z => n (h c z)) q
theorem But.upd {R : Addr → Prop} {H : Hp} {a : Addr} {o : HO} (h : R a) : But R H (upd H a o) := fun c u n q => by rw [upd_ne (fun z => n (by rw [z]; exact h))]; exact q
structure MSt where
  hand : Int
  kept : List Int
  steps : Int
  backs : Int
def MSt.go (t : MSt) (b k : Int) : MSt := { t with hand := b + k, steps := t.steps + k }
def MSt.keep (t : MSt) (b : Int) : MSt := { t with kept := t.kept ++ [b] }
def MSt.take (t : MSt) (b : Int) : MSt := { t with hand := b }
def MSt.passP (t : MSt) (b n s : Int) : MSt := { t with hand := b, steps := t.steps + tz n s, backs := t.backs + n }
def MSt.passR (t : MSt) (b n i : Int) : MSt :=
  { t with hand := if i % 3 > 0 then b + (n - 1 - i / 3) else b, steps := t.steps + (i / 3 * (n - 1) - i / 3 * (i / 3 - 1) / 2) + (if i % 3 > 0 then n - 1 - i / 3 else 0), backs := t.backs + (i / 3 + if i % 3 = 2 then 1 else 0) }
abbrev TSt.past (t : TSt) (b n s : Int) : TSt := { t with hand := b, steps := t.steps + tz n s, backs := t.backs + n }
def tri : Nat → Int
  | 0 => 0
  | k + 1 => ((k + 1 : Nat) : Int) + tri k
theorem tri_2 : ∀ k : Nat, 2 * tri k = (k : Int) * ((k : Int) + 1)
  | 0 => rfl
  | k + 1 => by
    have ih := tri_2 k
    show 2 * (((k + 1 : Nat) : Int) + tri k) = _
    rw [Int.mul_add, ih, show ((k + 1 : Nat) : Int) = (k : Int) + 1 by omega, ← Int.add_mul, Int.mul_comm]
    congr 1
    omega
theorem tri_tz {n s : Int} (hn : 1 ≤ n) (hs : 1 ≤ s) (h : n < 2 ∨ s < 2) : tri (n - 1).toNat = tz n s := by
  by_cases h1 : n = 1
  · subst h1
    rw [tz_one hs]
    rfl
  · have e : s = 1 := by omega
    subst e
    have a := tz_slot1 hn
    have b := tri_2 (n - 1).toNat
    rw [show (((n - 1).toNat : Nat) : Int) = n - 1 by omega, show n - 1 + 1 = n by omega, Int.mul_comm (n - 1) n] at b
    omega
theorem tst_ext {t u : TSt} (h1 : t.n = u.n) (h2 : t.s = u.s) (h3 : t.hand = u.hand) (h4 : t.kept = u.kept) (h5 : t.steps = u.steps) (h6 : t.backs = u.backs) : t = u := by
  cases t
  cases u
  simp only at h1 h2 h3 h4 h5 h6
  subst h1 h2 h3 h4 h5 h6
  rfl
theorem run_row (n b : Int) : ∀ (k : Nat) (t : TSt), t.hand = b → t.run (rowL n b k) = { t with hand := b, steps := t.steps + tri k, backs := t.backs + ((k : Int) + 1) }
  | 0, t, h => by
    show ({ t with backs := t.backs + 1 } : TSt) = _
    refine tst_ext rfl rfl h rfl ?_ ?_
    · show t.steps = t.steps + 0; omega
    · show t.backs + 1 = t.backs + (((0 : Nat) : Int) + 1); omega
  | k + 1, t, h => by
    show (((t.did (.go (k + 1 : Nat))).did .back).did (.take b)).run (rowL n b k) = _
    rw [run_row n b k _ rfl]
    refine tst_ext rfl rfl rfl rfl ?_ ?_
    · show t.steps + ((k + 1 : Nat) : Int) + tri k = t.steps + (((k + 1 : Nat) : Int) + tri k); omega
    · show t.backs + 1 + ((k : Int) + 1) = t.backs + (((k + 1 : Nat) : Int) + 1); omega
theorem best_sum {n s : Int} (hn : 2 ≤ n) (hs : 2 ≤ s) : hiz n s + tz (n - hiz n s) (s - 1) + tz (hiz n s) s = tz n s := by
  obtain ⟨l1, l2, l3⟩ := loz_range hn hs
  exact tz_best hs (by omega) l3 (hiz_best hn hs)
theorem erase_last {l : List Int} {x : Int} (h : x ∉ l) : (l ++ [x]).erase x = l := by
  rw [List.erase_append_right _ h]
  simp
theorem run_plan : ∀ n s : Int, 1 ≤ n → 1 ≤ s → ∀ (b : Int) (t : TSt), t.hand = b → (∀ k ∈ t.kept, k ≤ b) → t.run (opsL n s b) = t.past b n s := by
  refine plan_ind (fun n s hn hs h b t ht hk => ?_) fun n s hn hs ih1 ih2 b t ht hk => ?_
  · rw [opsL_row h, run_row _ _ _ _ ht, tri_tz hn hs h]
    refine tst_ext rfl rfl rfl rfl rfl ?_
    show t.backs + ((((n - 1).toNat : Nat) : Int) + 1) = t.backs + n
    omega
  · obtain ⟨l1, l2, l3⟩ := loz_range hn hs
    have bs := best_sum hn hs
    rw [opsL_two hn hs]
    show (t.did (.go (hiz n s))).run _ = _
    have t1h : (t.did (.go (hiz n s))).hand = b + hiz n s := by show t.hand + hiz n s = _; rw [ht]
    rw [run_app, run_app, run_app]
    rcases kp_01 n s with k | k
    · have k' : ¬ kp n s = 1 := by omega
      rw [if_neg k', if_neg k']
      show ((((t.did (.go (hiz n s))).run (opsL (n - hiz n s) (s - 1) (b + hiz n s))).did (.take b)).run (opsL (hiz n s) s b)) = _
      rw [ih1 _ _ t1h (fun k hk' => by have := hk k hk'; omega), ih2 b (((t.did (.go (hiz n s))).past (b + hiz n s) (n - hiz n s) (s - 1)).did (.take b)) rfl hk]
      refine tst_ext rfl rfl rfl rfl ?_ ?_
      · show t.steps + hiz n s + tz (n - hiz n s) (s - 1) + tz (hiz n s) s = t.steps + tz n s; omega
      · show t.backs + (n - hiz n s) + hiz n s = t.backs + n; omega
    · rw [if_pos k, if_pos k]
      show ((((((t.did (.go (hiz n s))).did .keep).run (opsL (n - hiz n s) (s - 1) (b + hiz n s))).did (.free (b + hiz n s))).did (.take b)).run (opsL (hiz n s) s b)) = _
      have nk : b + hiz n s ∉ t.kept := fun z => by have := hk _ z; omega
      rw [ih1 _ ((t.did (.go (hiz n s))).did .keep) t1h (fun k hk' => by
        have hk2 : k ∈ t.kept ++ [t.hand + hiz n s] := hk'
        rcases List.mem_append.mp hk2 with h | h
        · have := hk k h; omega
        · rw [List.mem_singleton.mp h, ht]; omega)]
      have ek : ((((t.did (.go (hiz n s))).did .keep).past (b + hiz n s) (n - hiz n s) (s - 1)).did (.free (b + hiz n s))).kept = t.kept := by
        show (t.kept ++ [t.hand + hiz n s]).erase (b + hiz n s) = t.kept
        rw [ht]
        exact erase_last nk
      rw [ih2 b _ rfl (by
        intro k hk'
        have hk2 : k ∈ ((((t.did (.go (hiz n s))).did .keep).past (b + hiz n s) (n - hiz n s) (s - 1)).did (.free (b + hiz n s))).kept := hk'
        rw [ek] at hk2
        exact hk k hk2)]
      refine tst_ext rfl rfl rfl ek ?_ ?_
      · show t.steps + hiz n s + tz (n - hiz n s) (s - 1) + tz (hiz n s) s = t.steps + tz n s; omega
      · show t.backs + (n - hiz n s) + hiz n s = t.backs + n; omega
theorem ok_row (n b : Int) (hb : 0 ≤ b) : ∀ (k : Nat) (t : TSt), t.hand = b → (k = 0 ∨ b ∈ t.kept) → 0 ≤ t.backs → t.n = b + ((k : Int) + 1) + t.backs → t.ok (rowL n b k)
  | 0, t, h, _, h3, h4 => by
    refine ⟨?_, trivial⟩
    show (decide (t.backs < t.n) && decide (t.hand = t.n - 1 - t.backs)) = true
    rw [decide_eq_true (by omega), decide_eq_true (by omega)]
    rfl
  | k + 1, t, h, h2, h3, h4 => by
    have h2' : b ∈ t.kept := h2.resolve_left (by omega)
    refine ⟨?_, ?_, ?_, ok_row n b hb k _ rfl (.inr h2') (by show 0 ≤ t.backs + 1; omega) (by show t.n = b + ((k : Int) + 1) + (t.backs + 1); omega)⟩
    · exact decide_eq_true (by show t.hand + ((k + 1 : Nat) : Int) < t.n; omega)
    · show (decide (t.backs < t.n) && decide (t.hand + ((k + 1 : Nat) : Int) = t.n - 1 - t.backs)) = true
      rw [decide_eq_true (by omega), decide_eq_true (by omega)]
      rfl
    · exact decide_eq_true h2'
theorem ok_plan : ∀ n s : Int, 1 ≤ n → 1 ≤ s → ∀ (b : Int) (t : TSt), 0 ≤ b → t.hand = b → (n = 1 ∨ b ∈ t.kept) → (∀ k ∈ t.kept, k ≤ b) → (t.kept.length : Int) + (s - 1) ≤ t.s → 0 ≤ t.backs → t.n = b + n + t.backs → t.ok (opsL n s b) := by
  refine plan_ind (fun n s hn hs h b t hb ht hm hk hl hz hN => ?_) fun n s hn hs ih1 ih2 b t hb ht hm hk hl hz hN => ?_
  · rw [opsL_row h]
    exact ok_row n b hb _ t ht (hm.imp (fun h => by omega) id) hz (by omega)
  · obtain ⟨l1, l2, l3⟩ := loz_range hn hs
    have hm' : b ∈ t.kept := hm.resolve_left (by omega)
    rw [opsL_two hn hs]
    have t1h : (t.did (.go (hiz n s))).hand = b + hiz n s := by show t.hand + hiz n s = _; rw [ht]
    refine ⟨decide_eq_true (by omega), ?_⟩
    rw [ok_app, ok_app, ok_app]
    rcases kp_01 n s with k | k
    · have k' : ¬ kp n s = 1 := by omega
      have n1 : n - hiz n s = 1 := by unfold kp at k; split at k <;> omega
      rw [if_neg k', if_neg k']
      have g1 := ih1 (b + hiz n s) (t.did (.go (hiz n s))) (by omega) t1h (.inl n1) (fun k hk' => by have := hk k hk'; omega) (by show (t.kept.length : Int) + (s - 1 - 1) ≤ t.s; omega) hz (by show t.n = b + hiz n s + (n - hiz n s) + t.backs; omega)
      have r1 := run_plan (n - hiz n s) (s - 1) (by omega) (by omega) (b + hiz n s) (t.did (.go (hiz n s))) t1h (fun k hk' => by have := hk k hk'; omega)
      refine ⟨⟨⟨trivial, g1⟩, trivial⟩, ?_⟩
      rw [List.nil_append, List.append_nil]
      show TSt.can ((t.did (.go (hiz n s))).run (opsL (n - hiz n s) (s - 1) (b + hiz n s))) (.take b) = true ∧ TSt.ok (((t.did (.go (hiz n s))).run (opsL (n - hiz n s) (s - 1) (b + hiz n s))).did (.take b)) (opsL (hiz n s) s b)
      rw [r1]
      exact ⟨decide_eq_true hm', ih2 b _ hb rfl (.inr hm') hk hl (by show 0 ≤ t.backs + (n - hiz n s); omega) (by show t.n = b + hiz n s + (t.backs + (n - hiz n s)); omega)⟩
    · rw [if_pos k, if_pos k]
      have nk : b + hiz n s ∉ t.kept := fun z => by have := hk _ z; omega
      have c1 : ∀ k ∈ ((t.did (.go (hiz n s))).did .keep).kept, k ≤ b + hiz n s := fun k hk' => by
        have hk2 : k ∈ t.kept ++ [t.hand + hiz n s] := hk'
        rcases List.mem_append.mp hk2 with h | h
        · have := hk k h; omega
        · rw [List.mem_singleton.mp h, ht]; omega
      have in1 : b + hiz n s ∈ ((t.did (.go (hiz n s))).did .keep).kept := by
        show b + hiz n s ∈ t.kept ++ [t.hand + hiz n s]
        rw [ht]
        exact List.mem_append_right _ (List.mem_singleton.mpr rfl)
      have g1 := ih1 (b + hiz n s) ((t.did (.go (hiz n s))).did .keep) (by omega) t1h (.inr in1) c1 (by show ((t.kept ++ [t.hand + hiz n s]).length : Int) + (s - 1 - 1) ≤ t.s; rw [List.length_append]; show ((t.kept.length + 1 : Nat) : Int) + (s - 1 - 1) ≤ t.s; omega) hz (by show t.n = b + hiz n s + (n - hiz n s) + t.backs; omega)
      have r1 := run_plan (n - hiz n s) (s - 1) (by omega) (by omega) (b + hiz n s) ((t.did (.go (hiz n s))).did .keep) t1h c1
      have ek : ((((t.did (.go (hiz n s))).did .keep).past (b + hiz n s) (n - hiz n s) (s - 1)).did (.free (b + hiz n s))).kept = t.kept := by
        show (t.kept ++ [t.hand + hiz n s]).erase (b + hiz n s) = t.kept
        rw [ht]
        exact erase_last nk
      refine ⟨⟨⟨⟨?_, trivial⟩, g1⟩, ?_⟩, ?_⟩
      · show (decide (t.hand + hiz n s ∉ t.kept) && decide ((t.kept.length : Int) < t.s)) = true
        rw [ht, decide_eq_true nk, decide_eq_true (by omega)]
        rfl
      · show TSt.can (((t.did (.go (hiz n s))).did .keep).run (opsL (n - hiz n s) (s - 1) (b + hiz n s))) (.free (b + hiz n s)) = true ∧ True
        rw [r1]
        exact ⟨decide_eq_true in1, trivial⟩
      · rw [run_app, run_app]
        show TSt.can ((((t.did (.go (hiz n s))).did .keep).run (opsL (n - hiz n s) (s - 1) (b + hiz n s))).did (.free (b + hiz n s))) (.take b) = true ∧ TSt.ok (((((t.did (.go (hiz n s))).did .keep).run (opsL (n - hiz n s) (s - 1) (b + hiz n s))).did (.free (b + hiz n s))).did (.take b)) (opsL (hiz n s) s b)
        rw [r1]
        have hb2 : b ∈ ((((t.did (.go (hiz n s))).did .keep).past (b + hiz n s) (n - hiz n s) (s - 1)).did (.free (b + hiz n s))).kept := by rw [ek]; exact hm'
        refine ⟨decide_eq_true hb2, ih2 b _ hb rfl (.inr hb2) (fun k hk' => ?_) ?_ (by show 0 ≤ t.backs + (n - hiz n s); omega) (by show t.n = b + hiz n s + (t.backs + (n - hiz n s)); omega)⟩
        · have hk2 : k ∈ ((((t.did (.go (hiz n s))).did .keep).past (b + hiz n s) (n - hiz n s) (s - 1)).did (.free (b + hiz n s))).kept := hk'
          rw [ek] at hk2
          exact hk k hk2
        · show ((((((t.did (.go (hiz n s))).did .keep).past (b + hiz n s) (n - hiz n s) (s - 1)).did (.free (b + hiz n s))).kept.length : Nat) : Int) + (s - 1) ≤ t.s
          rw [ek]
          exact hl
/-! ### whole lists that free only what is of no use have no fewer steps than the least ones -/
def TSt.idle (t : TSt) : Op → Prop
  | .free m => t.n - 1 - t.backs < m
  | .go k => 0 ≤ k
  | _ => True
def TSt.per : TSt → List Op → Prop
  | _, [] => True
  | t, o :: os => t.idle o ∧ TSt.per (t.did o) os
structure LB (t : TSt) (ks : List Int) : Prop where
  asc : Asc ks (t.n - 1 - t.backs)
  pm : ks.Perm (t.kept.filter fun x => decide (x ≤ t.n - 1 - t.backs))
  len : (t.kept.length : Int) ≤ t.s
  h0 : 0 ≤ t.hand
  k0 : ∀ k ∈ t.kept, 0 ≤ k
  bot : 0 ≤ t.n - 1 - t.backs → ∃ r, ks = 0 :: r
theorem insA_perm (h : Int) : ∀ r : List Int, (insA h r).Perm (h :: r)
  | [] => List.Perm.refl _
  | k :: r => by
    unfold insA
    split
    · exact List.Perm.refl _
    · exact ((insA_perm h r).cons k).trans (List.Perm.swap ..)
theorem erase_filter (p : Int → Bool) (m : Int) (hm : p m = false) : ∀ l : List Int, (l.erase m).filter p = l.filter p
  | [] => rfl
  | a :: l => by
    by_cases e : a = m
    · subst e
      rw [List.erase_cons_head, List.filter_cons_of_neg (by rw [hm]; decide)]
    · rw [List.erase_cons_tail (by simpa using e)]
      cases c : p a with
      | true => rw [List.filter_cons_of_pos c, List.filter_cons_of_pos c, erase_filter p m hm l]
      | false => rw [List.filter_cons_of_neg (by rw [c]; decide), List.filter_cons_of_neg (by rw [c]; decide), erase_filter p m hm l]
theorem LB.ls {t : TSt} {ks : List Int} (h : LB t ks) : (ks.length : Int) ≤ t.kept.length := by
  have a := h.pm.length_eq
  have b := List.length_filter_le (fun x => decide (x ≤ t.n - 1 - t.backs)) t.kept
  omega
theorem LB.mem {t : TSt} {ks : List Int} (h : LB t ks) {x : Int} : x ∈ ks ↔ x ∈ t.kept ∧ x ≤ t.n - 1 - t.backs := by
  rw [h.pm.mem_iff, List.mem_filter]
  exact ⟨fun ⟨a, b⟩ => ⟨a, of_decide_eq_true b⟩, fun ⟨a, b⟩ => ⟨a, decide_eq_true b⟩⟩
theorem never_less : ∀ {os : List Op} {t : TSt} {ks : List Int}, LB t ks → t.ok os → t.per os → (t.run os).backs = t.n → t.steps + phi t.s ks (t.n - 1 - t.backs) t.hand ≤ (t.run os).steps
  | [], t, ks, h, _, _, hb => by
    have hb : t.backs = t.n := hb
    have e : ks = [] := by
      cases ks with
      | nil => rfl
      | cons a r =>
        have a1 := h.mem.mp (List.mem_cons_self (a := a) (l := r))
        have := h.k0 a a1.1
        omega
    subst e
    show t.steps + 0 ≤ t.steps
    omega
  | o :: os, t, ks, h, ok, pe, hb => by
    have ls := h.ls
    have hl := h.len
    have w := h.asc
    have dn : (t.did o).n = t.n := by cases o <;> rfl
    have ds : (t.did o).s = t.s := by cases o <;> rfl
    have go_ : ∀ ks', LB (t.did o) ks' → t.steps + phi t.s ks (t.n - 1 - t.backs) t.hand ≤ (t.did o).steps + phi t.s ks' (t.n - 1 - (t.did o).backs) (t.did o).hand → t.steps + phi t.s ks (t.n - 1 - t.backs) t.hand ≤ (t.run (o :: os)).steps := fun ks' h' le => by
      have := never_less (os := os) (t := t.did o) h' ok.2 pe.2 (by rw [dn]; exact hb)
      rw [dn, ds] at this
      exact Int.le_trans le this
    cases o with
    | go k =>
      have k0 : 0 ≤ k := pe.1
      refine go_ ks ⟨h.asc, h.pm, h.len, by show 0 ≤ t.hand + k; have := h.h0; omega, h.k0, h.bot⟩ ?_
      have := phi_go h.asc (s := t.s) (by omega) k.toNat t.hand
      rw [show ((k.toNat : Nat) : Int) = k by omega] at this
      show _ ≤ t.steps + k + phi t.s ks (t.n - 1 - t.backs) (t.hand + k)
      omega
    | keep =>
      obtain ⟨c1, c2⟩ := Bool.and_eq_true_iff.mp ok.1
      have c1 := of_decide_eq_true c1
      have c2 := of_decide_eq_true c2
      have len' : ((t.kept ++ [t.hand]).length : Int) ≤ t.s := by rw [List.length_append, List.length_cons, List.length_nil]; omega
      have k0' : ∀ k ∈ t.kept ++ [t.hand], 0 ≤ k := fun k hk => by
        rcases List.mem_append.mp hk with hk | hk
        · exact h.k0 k hk
        · rw [List.mem_singleton.mp hk]; exact h.h0
      by_cases q : t.hand ≤ t.n - 1 - t.backs
      · obtain ⟨r, rfl⟩ := h.bot (by have := h.h0; omega)
        have z0 := h.mem.mp (List.mem_cons_self (a := (0 : Int)) (l := r))
        have hp : 0 < t.hand := by
          have := h.h0
          have : t.hand ≠ 0 := fun z => c1 (by rw [z]; exact z0.1)
          omega
        have pk := phi_keep (s := t.s) (k := 0) (r := r) (w := t.n - 1 - t.backs) (h := t.hand) h.asc (by omega) hp q fun z => c1 (h.mem.mp (List.mem_cons_of_mem _ z)).1
        have pr : (0 :: insA t.hand r).Perm ((t.kept ++ [t.hand]).filter fun x => decide (x ≤ t.n - 1 - t.backs)) := by
          rw [List.filter_append, List.filter_cons_of_pos (by exact decide_eq_true q), List.filter_nil]
          have a : (0 :: insA t.hand r).Perm (0 :: t.hand :: r) := (insA_perm t.hand r).cons 0
          have b : (0 :: t.hand :: r).Perm (t.hand :: 0 :: r) := List.Perm.swap ..
          have c : (t.hand :: 0 :: r).Perm (t.hand :: t.kept.filter fun x => decide (x ≤ t.n - 1 - t.backs)) := h.pm.cons _
          exact (a.trans b).trans (c.trans (List.perm_append_singleton _ _).symm)
        have lb : LB (t.did .keep) (0 :: insA t.hand r) := ⟨pk.2, pr, len', h.h0, k0', fun _ => ⟨_, rfl⟩⟩
        refine go_ _ lb ?_
        have ll := lb.ls
        have ll : ((0 :: insA t.hand r).length : Int) ≤ ((t.kept ++ [t.hand]).length : Int) := ll
        have e := phi_eq (s := t.s) (ks := 0 :: insA t.hand r) (w := t.n - 1 - t.backs) (h := t.hand) pk.2 (by omega) (.inl (List.mem_cons_of_mem _ ((insA_perm t.hand r).mem_iff.mpr (List.mem_cons_self ..))))
        show _ ≤ t.steps + phi t.s (0 :: insA t.hand r) (t.n - 1 - t.backs) t.hand
        rw [e]
        have := pk.1
        omega
      · refine go_ ks ⟨h.asc, ?_, len', h.h0, k0', h.bot⟩ (Int.le_refl _)
        show ks.Perm ((t.kept ++ [t.hand]).filter fun x => decide (x ≤ t.n - 1 - t.backs))
        rw [List.filter_append, List.filter_cons_of_neg (by simp; omega), List.filter_nil, List.append_nil]
        exact h.pm
    | back =>
      obtain ⟨c1, c2⟩ := Bool.and_eq_true_iff.mp ok.1
      have c1 := of_decide_eq_true c1
      have c2 := of_decide_eq_true c2
      obtain ⟨r, rfl⟩ := h.bot (by omega)
      have pb := phi_back (s := t.s) (k := 0) (r := r) (w := t.n - 1 - t.backs) h.asc (by omega)
      have ew : t.n - 1 - (t.backs + 1) = t.n - 1 - t.backs - 1 := by omega
      have lb : LB (t.did .back) ((0 :: r).filter fun x => decide (x < t.n - 1 - t.backs)) := by
        refine ⟨?_, ?_, h.len, h.h0, h.k0, fun q => ?_⟩
        · show Asc _ (t.n - 1 - (t.backs + 1))
          rw [ew]
          exact pb.2
        · show List.Perm _ (t.kept.filter fun x => decide (x ≤ t.n - 1 - (t.backs + 1)))
          have := h.pm.filter (fun x => decide (x < t.n - 1 - t.backs))
          rw [List.filter_filter] at this
          refine this.trans (List.Perm.of_eq (List.filter_congr fun x _ => ?_))
          by_cases c : x < t.n - 1 - t.backs
          · rw [decide_eq_true c, decide_eq_true (by omega), decide_eq_true (by omega)]; rfl
          · rw [decide_eq_false c, Bool.false_and]
            exact (decide_eq_false (by omega)).symm
        · have q : 0 ≤ t.n - 1 - (t.backs + 1) := q
          exact ⟨_, List.filter_cons_of_pos (by exact decide_eq_true (by omega))⟩
      refine go_ _ lb ?_
      have ll : (((0 :: r).filter fun x => decide (x < t.n - 1 - t.backs)).length : Int) ≤ (t.kept.length : Int) := lb.ls
      have e := phi_eq (s := t.s) (ks := (0 :: r).filter fun x => decide (x < t.n - 1 - t.backs)) (w := t.n - 1 - t.backs - 1) (h := t.hand) pb.2 (by omega) (.inr (by omega))
      show _ ≤ t.steps + phi t.s ((0 :: r).filter fun x => decide (x < t.n - 1 - t.backs)) (t.n - 1 - (t.backs + 1)) t.hand
      rw [ew, e, c2]
      have := pb.1
      omega
    | take m =>
      have c := of_decide_eq_true ok.1
      refine go_ ks ⟨h.asc, h.pm, h.len, h.k0 m c, h.k0, h.bot⟩ ?_
      have e := phi_eq (s := t.s) (ks := ks) (w := t.n - 1 - t.backs) (h := m) h.asc (by omega) (by
        by_cases q : m ≤ t.n - 1 - t.backs
        · exact .inl (h.mem.mpr ⟨c, q⟩)
        · exact .inr (by omega))
      have := phi_le t.s ks (t.n - 1 - t.backs) t.hand
      show _ ≤ t.steps + phi t.s ks (t.n - 1 - t.backs) m
      omega
    | free m =>
      have q : t.n - 1 - t.backs < m := pe.1
      refine go_ ks ⟨h.asc, ?_, ?_, h.h0, fun k hk => h.k0 k (List.mem_of_mem_erase hk), h.bot⟩ (Int.le_refl _)
      · show ks.Perm ((t.kept.erase m).filter fun x => decide (x ≤ t.n - 1 - t.backs))
        rw [erase_filter _ m (decide_eq_false (by omega))]
        exact h.pm
      · show ((t.kept.erase m).length : Int) ≤ t.s
        have := List.length_erase_le (a := m) (l := t.kept)
        omega
/-- from the beginning -/
theorem whole_steps {n s : Int} {os : List Op} (hn : 1 ≤ n) (hs : 1 ≤ s) (ok : TSt.ok ⟨n, s, 0, [0], 0, 0⟩ os) (pe : TSt.per ⟨n, s, 0, [0], 0, 0⟩ os) (hb : (TSt.run ⟨n, s, 0, [0], 0, 0⟩ os).backs = n) : tz n s ≤ (TSt.run ⟨n, s, 0, [0], 0, 0⟩ os).steps := by
  have a : Asc [0] (n - 1 - 0) := ⟨by show (0 : Int) < n - 1 - 0 + 1; omega, trivial⟩
  have lb : LB ⟨n, s, 0, [0], 0, 0⟩ [0] := ⟨a, by
    show [0].Perm ([0].filter fun x => decide (x ≤ n - 1 - 0))
    rw [List.filter_cons_of_pos (by exact decide_eq_true (by omega))]
    exact List.Perm.refl _, by show ((1 : Nat) : Int) ≤ s; omega, Int.le_refl _, fun k hk => by rw [List.mem_singleton.mp hk]; exact Int.le_refl _, fun _ => ⟨[], rfl⟩⟩
  have h := never_less lb ok pe hb
  have e := phi_eq (s := s) (h := 0) a (by show ((1 : Nat) : Int) ≤ s; omega) (.inl (List.mem_cons_self ..))
  have h : 0 + phi s [0] (n - 1 - 0) 0 ≤ _ := h
  rw [e] at h
  have e2 : psum s [0] (n - 1 - 0) = tz (n - 1 - 0 + 1 - 0) s + 0 := rfl
  rw [e2, show n - 1 - 0 + 1 - 0 = n by omega] at h
  omega
section
variable {P : Program} {w : World} {K : PySem.W.Frag} {mg : Str → Option Value} {base : Heap}
/-! ### checks -/
def sp_is_int (K : PySem.W.Frag) : Sp := sp1 fun a H Q _ => ∃ o, IntOr K H a o ∧ Q (.bl o.isSome) H
theorem sc_is_int : FnScope ["value"] ["value"] (defScope s_is_int) := ⟨rfl, rfl, rfl, by decide +kernel, rfl, by decide +kernel, by decide +kernel⟩
theorem ok_is_int (T : Txt P w K mg base) : FnOk P w K mg base (L2.CX P w) 1 T.a_is_int T.fd_is_int ["value"] (sp_is_int K) := by
  refine FunD.ok T.F_is_int sc_is_int (fun vs H Q E h => ar1 h) (fun cdv A fr s H vs Q E hr h => ⟨_, PSs.nox (pss_one (ps_ret (pe_and (pe_callB (r := rIsi K) call_isi (by rfl) T.n_isinstance (by decide +kernel) (pa_cons (pv 0) (pa_cons (pe_bltn (v := .ty "int") (by rfl) T.n_int (by decide +kernel) rfl) pa_nil))) (pe_one (pe_not (pe_callB (r := rIsi K) call_isi (by rfl) T.n_isinstance (by decide +kernel) (pa_cons (pv 0) (pa_cons (pe_bltn (v := .ty "bool") (by rfl) T.n_bool (by decide +kernel) rfl) pa_nil)))))))), ?_⟩)
  obtain ⟨_, rfl, o, h, q⟩ := h
  walk_at "rd"
  cases o with
  | some n =>
    cases h
    refine ⟨.int n, .ty "int", .type "int", .type "int", true, rfl, .ty _, .base (.int _), kit_ty kit_int_int, true, rfl, iteT ?_⟩
    exact ⟨.int n, .ty "bool", .type "int", .type "bool", false, rfl, .ty _, .base (.int _), kit_ty kit_int_bool, false, rfl, q⟩
  | none =>
    obtain ⟨t, b1, b2, ty, k1, k2, e⟩ := h
    refine ⟨_, .ty "int", .type t, .type "int", b1, rfl, .ty _, ty, kit_ty k1, b1, rfl, ?_⟩
    cases b1 with
    | false => exact iteF q
    | true =>
      refine iteT ⟨_, .ty "bool", .type t, .type "bool", b2, rfl, .ty _, ty, kit_ty k2, b2, rfl, ?_⟩
      have e2 : (!b2) = false := by simpa using e
      rw [e2]
      exact q
def sp_is_whole (K : PySem.W.Frag) : Sp := sp3 fun a b c H Q _ => ∃ (o : Option Int) (lo hi : Int), IntOr K H a o ∧ b = .int lo ∧ c = .int hi ∧ Q (.bl (whole o lo hi)) H
theorem sc_is_whole : FnScope ["value", "low", "high"] ["value", "low", "high"] (defScope s_is_whole) := ⟨rfl, rfl, rfl, by decide +kernel, rfl, by decide +kernel, by decide +kernel⟩
theorem ok_is_whole (T : Txt P w K mg base) : FnOk P w K mg base (L2.CX P w) 2 T.a_is_whole T.fd_is_whole ["value", "low", "high"] (sp_is_whole K) := by
  refine FunD.ok T.F_is_whole sc_is_whole (fun vs H Q E h => ar3 h) (fun cdv A fr s H vs Q E hr h => ⟨_, PSs.nox (pss_one (ps_ret (pe_and (pe_call (ok_is_int T) hr (by rfl) T.g_is_int T.F_is_int.kp T.b_is_int .nil passL (pa_cons (pv 0) pa_nil)) (pe_one (pe_chain op_le op_le (pv 1) (pv 0) (pv 2)))))), ?_⟩)
  obtain ⟨_, _, _, rfl, o, lo, hi, h, rfl, rfl, q⟩ := h
  walk_at "rd"
  unfold sp_is_int
  walk_at "rd"
  refine ⟨o, h, ?_⟩
  cases o with
  | none => exact q
  | some n =>
    cases h
    have e : whole (some n) lo hi = (decide (lo ≤ n) && decide (n ≤ hi)) := by unfold whole; simp
    rw [e] at q
    simp only [Option.isSome_some]
    walk_at "rd"
    refine ite2 (fun h => ?_) (fun h => ?_)
    · rw [decide_eq_true h, Bool.true_and] at q
      exact q
    · rw [decide_eq_false h, Bool.false_and] at q
      exact q
theorem sc_InvalidOperations___init__ : FnScope ["self", "item"] ["self", "item"] (defScope s_InvalidOperations___init__) := ⟨rfl, rfl, rfl, by decide +kernel, rfl, by decide +kernel, by decide +kernel⟩
theorem ok_InvalidOperations___init__ (T : Txt P w K mg base) : FnOk P w K mg base (L2.CX P w) 1 T.a_InvalidOperations___init__ T.fd_InvalidOperations___init__ ["self", "item"] (spIn K "item") := by
  refine FunD.ok T.F_InvalidOperations___init__ sc_InvalidOperations___init__ (spIn_len rfl) (fun cdv A fr s H vs Q E hr h => ⟨_, (pss_one (ps_ost (pv 0) (pv 1))), ?_⟩)
  obtain ⟨a, C, v, rfl, ox, no, ha, q⟩ := h
  exact ⟨_, rfl, _, rfl, a, C, rfl, ox, no, .inl ⟨ha, fun dx h1 h2 => q dx h1 h2⟩⟩
theorem sc_CannotDo___init__ : FnScope ["self", "operation"] ["self", "operation"] (defScope s_CannotDo___init__) := ⟨rfl, rfl, rfl, by decide +kernel, rfl, by decide +kernel, by decide +kernel⟩
theorem ok_CannotDo___init__ (T : Txt P w K mg base) : FnOk P w K mg base (L2.CX P w) 1 T.a_CannotDo___init__ T.fd_CannotDo___init__ ["self", "operation"] (spIn K "operation") := by
  refine FunD.ok T.F_CannotDo___init__ sc_CannotDo___init__ (spIn_len rfl) (fun cdv A fr s H vs Q E hr h => ⟨_, (pss_one (ps_ost (pv 0) (pv 1))), ?_⟩)
  obtain ⟨a, C, v, rfl, ox, no, ha, q⟩ := h
  exact ⟨_, rfl, _, rfl, a, C, rfl, ox, no, .inl ⟨ha, fun dx h1 h2 => q dx h1 h2⟩⟩
theorem sc_TooLarge___init__ : FnScope ["self", "limit"] ["self", "limit"] (defScope s_TooLarge___init__) := ⟨rfl, rfl, rfl, by decide +kernel, rfl, by decide +kernel, by decide +kernel⟩
theorem ok_TooLarge___init__ (T : Txt P w K mg base) : FnOk P w K mg base (L2.CX P w) 1 T.a_TooLarge___init__ T.fd_TooLarge___init__ ["self", "limit"] (spIn K "limit") := by
  refine FunD.ok T.F_TooLarge___init__ sc_TooLarge___init__ (spIn_len rfl) (fun cdv A fr s H vs Q E hr h => ⟨_, (pss_one (ps_ost (pv 0) (pv 1))), ?_⟩)
  obtain ⟨a, C, v, rfl, ox, no, ha, q⟩ := h
  exact ⟨_, rfl, _, rfl, a, C, rfl, ox, no, .inl ⟨ha, fun dx h1 h2 => q dx h1 h2⟩⟩
theorem sc_TooDeep___init__ : FnScope ["self", "rounds"] ["self", "rounds"] (defScope s_TooDeep___init__) := ⟨rfl, rfl, rfl, by decide +kernel, rfl, by decide +kernel, by decide +kernel⟩
theorem ok_TooDeep___init__ (T : Txt P w K mg base) : FnOk P w K mg base (L2.CX P w) 1 T.a_TooDeep___init__ T.fd_TooDeep___init__ ["self", "rounds"] (spIn K "rounds") := by
  refine FunD.ok T.F_TooDeep___init__ sc_TooDeep___init__ (spIn_len rfl) (fun cdv A fr s H vs Q E hr h => ⟨_, (pss_one (ps_ost (pv 0) (pv 1))), ?_⟩)
  obtain ⟨a, C, v, rfl, ox, no, ha, q⟩ := h
  exact ⟨_, rfl, _, rfl, a, C, rfl, ox, no, .inl ⟨ha, fun dx h1 h2 => q dx h1 h2⟩⟩
def sp_require_length (K : PySem.W.Frag) : Sp := sp1 fun a H Q _ => ∃ (n : Int), a = .int n ∧ 1 ≤ n ∧ n ≤ 10 ^ 30 ∧ Q .non H
theorem sc_require_length : FnScope ["value"] ["value"] (defScope s_require_length) := ⟨rfl, rfl, rfl, by decide +kernel, rfl, by decide +kernel, by decide +kernel⟩
theorem ok_require_length (T : Txt P w K mg base) : FnOk P w K mg base (L2.CX P w) 3 T.a_require_length T.fd_require_length ["value"] (sp_require_length K) := by
  refine FunD.ok T.F_require_length sc_require_length (fun vs H Q E h => ar1 h) (fun cdv A fr s H vs Q E hr h => ⟨_, PSs.nox (pss_one (ps_if (pt_not (pt_val (pe_call (ok_is_whole T) hr (by rfl) T.g_is_whole T.F_is_whole.kp T.b_is_whole .nil passL (pa_cons (pv 0) (pa_cons pe_int (pa_cons (pe_glob (v := .int 1000000000000000000000000000000) (by rfl) T.c_MOST_LENGTH ⟨_, rfl⟩) pa_nil)))))) (pss_one ps_never) pss_nil)), ?_⟩)
  obtain ⟨_, rfl, n, rfl, h1, h2, q⟩ := h
  walk_at "rd"
  unfold sp_is_whole
  walk_at "rd"
  refine ⟨some n, rfl, ?_⟩
  have e : whole (some n) 1 1000000000000000000000000000000 = true := by unfold whole; exact decide_eq_true ⟨h1, by omega⟩
  rw [e]
  exact iteTF q
/-! ### reaches -/
def sp_require_slots (K : PySem.W.Frag) : Sp := sp1 fun a H Q _ => ∃ (n : Int), a = .int n ∧ 1 ≤ n ∧ n ≤ 100 ∧ Q .non H
theorem sc_require_slots : FnScope ["value"] ["value"] (defScope s_require_slots) := ⟨rfl, rfl, rfl, by decide +kernel, rfl, by decide +kernel, by decide +kernel⟩
theorem ok_require_slots (T : Txt P w K mg base) : FnOk P w K mg base (L2.CX P w) 3 T.a_require_slots T.fd_require_slots ["value"] (sp_require_slots K) := by
  refine FunD.ok T.F_require_slots sc_require_slots (fun vs H Q E h => ar1 h) (fun cdv A fr s H vs Q E hr h => ⟨_, PSs.nox (pss_one (ps_if (pt_not (pt_val (pe_call (ok_is_whole T) hr (by rfl) T.g_is_whole T.F_is_whole.kp T.b_is_whole .nil passL (pa_cons (pv 0) (pa_cons pe_int (pa_cons (pe_glob (v := .int 100) (by rfl) T.c_MOST_SLOTS ⟨_, rfl⟩) pa_nil)))))) (pss_one ps_never) pss_nil)), ?_⟩)
  obtain ⟨_, rfl, n, rfl, h1, h2, q⟩ := h
  walk_at "rd"
  unfold sp_is_whole
  walk_at "rd"
  refine ⟨some n, rfl, ?_⟩
  have e : whole (some n) 1 100 = true := by unfold whole; exact decide_eq_true ⟨h1, h2⟩
  rw [e]
  exact iteTF q
def sp_require_task (K : PySem.W.Frag) : Sp := sp2 fun a b H Q _ => ∃ (n s : Int), a = .int n ∧ b = .int s ∧ 1 ≤ n ∧ n ≤ 10 ^ 30 ∧ 1 ≤ s ∧ s ≤ 100 ∧ Q .non H
theorem sc_require_task : FnScope ["length", "slots"] ["length", "slots"] (defScope s_require_task) := ⟨rfl, rfl, rfl, by decide +kernel, rfl, by decide +kernel, by decide +kernel⟩
theorem ok_require_task (T : Txt P w K mg base) : FnOk P w K mg base (L2.CX P w) 4 T.a_require_task T.fd_require_task ["length", "slots"] (sp_require_task K) := by
  refine FunD.ok T.F_require_task sc_require_task (fun vs H Q E h => ar2 h) (fun cdv A fr s H vs Q E hr h => ⟨_, PSs.nox (pss_cons (ps_expr (pe_call (ok_require_length T) hr (by rfl) T.g_require_length T.F_require_length.kp T.b_require_length .nil passL (pa_cons (pv 0) pa_nil))) (pss_one (ps_expr (pe_call (ok_require_slots T) hr (by rfl) T.g_require_slots T.F_require_slots.kp T.b_require_slots .nil passL (pa_cons (pv 1) pa_nil))))), ?_⟩)
  obtain ⟨_, _, rfl, n, s, rfl, rfl, h1, h2, h3, h4, q⟩ := h
  walk_at "rd"
  unfold sp_require_length sp_require_slots
  walk_at "rd"
  exact ⟨h1, by omega, h3, h4, q⟩
def sp_reach_of (K : PySem.W.Frag) : Sp := sp2 fun a b H Q _ => ∃ (s r : Int), a = .int s ∧ b = .int r ∧ 0 ≤ s ∧ s ≤ 102 ∧ -1 ≤ r ∧ r ≤ 2 ^ 110 ∧ Q (.int (Rz s r)) H
theorem Rz_big {s r : Int} (h1 : s ≤ 102) (h2 : r ≤ 2 ^ 112) : Rz s r < BIG := by
  unfold Rz
  have hB := big_200
  split
  · split <;> omega
  · have h := R_le s.toNat r.toNat
    have h3 : (((r.toNat + 1) ^ s.toNat : Nat) : Int) < BIG := big_pow (a := 113) (b := 102) (by decide) (by omega) (by omega)
    omega
theorem sc_reach_of : FnScope ["slots", "rounds", "found", "turn"] ["slots", "rounds"] (defScope s_reach_of) := ⟨rfl, rfl, rfl, by decide +kernel, rfl, by decide +kernel, by decide +kernel⟩
theorem ok_reach_of (T : Txt P w K mg base) : FnOk P w K mg base (L2.CX P w) 1 T.a_reach_of T.fd_reach_of ["slots", "rounds"] (sp_reach_of K) := by
  refine FunD.ok T.F_reach_of sc_reach_of (fun vs H Q E h => ar2 h) (fun cdv A fr s H vs Q E hr h => ⟨_, PSs.nox (pss_cons (ps_set (i := 2) sc_reach_of.nd rfl (.inl rfl) pe_int) (pss_cons (ps_for PassesOwn.never rfl (pi_range2 (by rfl) T.n_range (pa_cons pe_int (pa_cons (pe_op op_add (pv 0) pe_int) pa_nil))) (pg_name (i := 3) sc_reach_of.nd rfl (.inl rfl)) (pss_one (ps_set (i := 2) sc_reach_of.nd rfl (.inl rfl) (pe_op op_divB (pe_op op_mulB (pv 2) (pe_op op_add (pv 1) (pv 3))) (pv 3))))) (pss_one (ps_ret (pv 2))))), ?_⟩)
  obtain ⟨_, _, rfl, s, r, rfl, rfl, h1, h2, h3, h4, q⟩ := h
  walk_at "rd"
  refine for_rng2 (lo := 1) (hi := s + 1) s.toNat (fun R q => by walk_at "rd"; exact q) (by omega) (by omega)
    (fun i σ H' => H' = H ∧ ∃ x, σ = [some (.int s), some (.int r), some (.int (Rz i r)), x]) ⟨rfl, none, by rw [show ((0 : Nat) : Int) = 0 by rfl, Rz_zero]⟩ ?_ ?_
  · rintro σ H' ⟨rfl, x, rfl⟩
    walk_at "rd"
    rw [show ((s.toNat : Nat) : Int) = s by omega]
    exact q
  · rintro i σ H' hi ⟨rfl, x, rfl⟩
    walk_at "rd"
    have b1 : Rz (i : Int) r < BIG := Rz_big (by omega) (by omega)
    have b2 := Rz_nonneg (i : Int) r
    have hB := big_200
    refine ⟨⟨⟨by omega, by omega⟩, by omega, by omega⟩, ⟨by omega, by omega⟩, ?_⟩
    rw [show (1 : Int) + (i : Int) = (i : Int) + 1 by omega, Rz_turn (by omega) h3]
    rfl
def sp_rounds_of (K : PySem.W.Frag) : Sp := sp2 fun a b H Q _ => ∃ (n s : Int), a = .int n ∧ b = .int s ∧ 1 ≤ n ∧ n ≤ 10 ^ 30 ∧ 1 ≤ s ∧ s ≤ 101 ∧ ∀ H', Ex H H' → Q (.int (rho n s)) H'
theorem sc_rounds_of : FnScope ["length", "slots", "low", "high", "middle"] ["length", "slots"] (defScope s_rounds_of) := ⟨rfl, rfl, rfl, by decide +kernel, rfl, by decide +kernel, by decide +kernel⟩
theorem ok_rounds_of (T : Txt P w K mg base) : FnOk P w K mg base (L2.CX P w) 2 T.a_rounds_of T.fd_rounds_of ["length", "slots"] (sp_rounds_of K) := by
  refine FunD.ok T.F_rounds_of sc_rounds_of (fun vs H Q E h => ar2 h) (fun cdv A fr s H vs Q E hr h => ⟨_, PSs.nox (pss_cons (ps_asg (pe_tup (pa_cons (pe_un un_neg pe_int) (pa_cons pe_int pa_nil))) (pg_tupT (n := 2) rfl (pgs_cons (pg_name (i := 2) sc_rounds_of.nd rfl (.inl rfl)) (pgs_cons (pg_name (i := 3) sc_rounds_of.nd rfl (.inl rfl)) pgs_nil)))) (pss_cons (ps_while PassesOwn.never (pt_cmpR op_lt (pe_call (ok_reach_of T) hr (by rfl) T.g_reach_of T.F_reach_of.kp T.b_reach_of .nil passL (pa_cons (pv 1) (pa_cons (pv 3) pa_nil))) (pv 0) (nomark _)) (pss_one (ps_par (i := 2) (j := 3) (by rfl) sc_rounds_of.nd rfl rfl (by decide) rfl rfl (pa_cons (pv 3) (pa_cons (pe_op op_mulB pe_int (pv 3)) pa_nil)) (by rfl)))) (pss_cons (ps_while PassesOwn.never (pt_cmpR op_gt (pe_op op_sub (pv 3) (pv 2)) pe_int (nomark _)) (pss_cons (ps_set (i := 4) sc_rounds_of.nd rfl (.inl rfl) (pe_op op_divB (pe_op op_add (pv 2) (pv 3)) pe_int)) (pss_one (ps_if (pt_cmpR op_lt (pe_call (ok_reach_of T) hr (by rfl) T.g_reach_of T.F_reach_of.kp T.b_reach_of .nil passL (pa_cons (pv 1) (pa_cons (pv 4) pa_nil))) (pv 0) (nomark _)) (pss_one (ps_set (i := 2) sc_rounds_of.nd rfl (.inl rfl) (pv 4))) (pss_one (ps_set (i := 3) sc_rounds_of.nd rfl (.inl rfl) (pv 4))))))) (pss_one (ps_ret (pv 3)))))), ?_⟩)
  obtain ⟨_, _, rfl, n, s, rfl, rfl, h1, h2, h3, h4, q⟩ := h
  walk_at "rd"
  intro p hp
  refine ⟨fun m σ H' => Ex H H' ∧ ∃ low high x, σ = [some (.int n), some (.int s), some (.int low), some (.int high), x] ∧ -1 ≤ low ∧ low < high ∧ 1 ≤ high ∧ high ≤ 2 * n ∧ Rz s low < n ∧ m = (2 * n - high).toNat,
    ⟨_, exn hp, -1, 1, _, rfl, by omega, by omega, by omega, by omega, by rw [Rz_neg (by omega)]; omega, rfl⟩, ?_⟩
  rintro m σ H' ⟨eH, low, high, x, rfl, l1, l2, l3, l4, l5, rfl⟩
  walk_at "rd"
  unfold sp_reach_of
  walk_at "rd"
  refine ⟨by omega, by omega, by omega, by omega, ?_⟩
  refine ite2 (fun hlt => ?_) (fun hge => ?_)
  · have hg := Rz_gt (s := s) (r := high) h3 (by omega)
    refine ⟨fun σ' H'' => H'' = H' ∧ ∃ low' high' x', σ' = [some (.int n), some (.int s), some (.int low'), some (.int high'), x'] ∧ -1 ≤ low' ∧ low' < high' ∧ 1 ≤ high' ∧ high' ≤ 2 * n ∧ Rz s low' < n ∧ high < high',
      fun σ' H'' ⟨e, low', high', x', e1, e2, e3, e4, e5, e6, e7⟩ => ⟨_, ?_, by rw [e]; exact eH, low', high', x', e1, e2, e3, e4, e5, e6, rfl⟩, ?_, ?_⟩
    · omega
    · unfold CMulB; have hB := big_200; omega
    · refine ⟨rfl, high, 2 * high, x, rfl, by omega, by omega, by omega, by omega, hlt, by omega⟩
  · refine ⟨fun m σ H'' => H'' = H' ∧ ∃ low high x, σ = [some (.int n), some (.int s), some (.int low), some (.int high), x] ∧ -1 ≤ low ∧ low < high ∧ high ≤ 2 * n ∧ Rz s low < n ∧ n ≤ Rz s high ∧ m = (high - low).toNat,
      ⟨_, rfl, low, high, x, rfl, l1, l2, l4, l5, by omega, rfl⟩, ?_⟩
    rintro m σ H'' ⟨rfl, low, high, x, rfl, l1, l2, l4, l5, l6, rfl⟩
    walk_at "rd"
    refine ite2 (fun hlt => ?_) (fun hge => ?_)
    · refine ⟨fun σ' H' => H' = H'' ∧ ∃ low' high' x', σ' = [some (.int n), some (.int s), some (.int low'), some (.int high'), x'] ∧ -1 ≤ low' ∧ low' < high' ∧ high' ≤ 2 * n ∧ Rz s low' < n ∧ n ≤ Rz s high' ∧ high' - low' < high - low,
        fun σ' H' ⟨e, low', high', x', e1, e2, e3, e5, e6, e7, e8⟩ => ⟨_, ?_, e, low', high', x', e1, e2, e3, e5, e6, e7, rfl⟩, ?_⟩
      · omega
      · unfold CDivB
        refine ⟨by omega, by omega, by omega, by omega, by omega, ?_⟩
        refine ite2 (fun h => ?_) (fun h => ?_)
        · exact ⟨rfl, (low + high) / 2, high, _, rfl, by omega, by omega, by omega, h, l6, by omega⟩
        · exact ⟨rfl, low, (low + high) / 2, _, rfl, by omega, by omega, by omega, l5, by omega, by omega⟩
    · have e : rho n s = high := rho_eq h1 h3 (by omega) l6 (by rw [show high - 1 = low by omega]; exact l5)
      rw [e] at q
      exact q _ eH
theorem tz_lt_big {n s : Int} (hn : 1 ≤ n) (h2 : n ≤ 10 ^ 30) (hs : 1 ≤ s) (hs2 : s ≤ 101) : tz n s ≤ n * n := by
  have h0 := rho_nonneg n s
  have h1 := rho_lt (n := n) (s := s) hn hs
  have h3 := Rz_nonneg (s + 1) (rho n s - 1)
  have h4 : rho n s * n ≤ n * n := Int.mul_le_mul_of_nonneg_right (by omega) (by omega)
  unfold tz
  omega
theorem sq_big {n : Int} (hn : 0 ≤ n) (h2 : n ≤ 10 ^ 30) : n * n ≤ 10 ^ 60 := by
  calc n * n ≤ 10 ^ 30 * n := Int.mul_le_mul_of_nonneg_right h2 hn
    _ ≤ 10 ^ 30 * 10 ^ 30 := Int.mul_le_mul_of_nonneg_left h2 (by decide)
    _ = 10 ^ 60 := by decide
def sp_steps_with (K : PySem.W.Frag) : Sp := sp3 fun a b c H Q _ => ∃ (n s : Int), a = .int n ∧ b = .int s ∧ c = .int (rho n s) ∧ 1 ≤ n ∧ n ≤ 10 ^ 30 ∧ 1 ≤ s ∧ s ≤ 101 ∧ Q (.int (tz n s)) H
theorem sc_steps_with : FnScope ["length", "slots", "rounds"] ["length", "slots", "rounds"] (defScope s_steps_with) := ⟨rfl, rfl, rfl, by decide +kernel, rfl, by decide +kernel, by decide +kernel⟩
theorem ok_steps_with (T : Txt P w K mg base) : FnOk P w K mg base (L2.CX P w) 2 T.a_steps_with T.fd_steps_with ["length", "slots", "rounds"] (sp_steps_with K) := by
  refine FunD.ok T.F_steps_with sc_steps_with (fun vs H Q E h => ar3 h) (fun cdv A fr s H vs Q E hr h => ⟨_, PSs.nox (pss_one (ps_ret (pe_op op_sub (pe_op op_mulB (pv 2) (pv 0)) (pe_call (ok_reach_of T) hr (by rfl) T.g_reach_of T.F_reach_of.kp T.b_reach_of .nil passL (pa_cons (pe_op op_add (pv 1) pe_int) (pa_cons (pe_op op_sub (pv 2) pe_int) pa_nil)))))), ?_⟩)
  obtain ⟨_, _, _, rfl, n, s, rfl, rfl, rfl, h1, h2, h3, h4, q⟩ := h
  walk_at "rd"
  unfold sp_reach_of
  walk_at "rd"
  have r0 := rho_nonneg n s
  have r1 := rho_lt (n := n) (s := s) h1 h3
  exact ⟨by walk_at "ar", by omega, by omega, by omega, by omega, q⟩
def sp_least_of (K : PySem.W.Frag) : Sp := sp2 fun a b H Q _ => ∃ (n s : Int), a = .int n ∧ b = .int s ∧ 1 ≤ n ∧ n ≤ 10 ^ 30 ∧ 1 ≤ s ∧ s ≤ 101 ∧ ∀ H', Ex H H' → Q (.int (tz n s)) H'
theorem sc_least_of : FnScope ["length", "slots"] ["length", "slots"] (defScope s_least_of) := ⟨rfl, rfl, rfl, by decide +kernel, rfl, by decide +kernel, by decide +kernel⟩
theorem ok_least_of (T : Txt P w K mg base) : FnOk P w K mg base (L2.CX P w) 3 T.a_least_of T.fd_least_of ["length", "slots"] (sp_least_of K) := by
  refine FunD.ok T.F_least_of sc_least_of (fun vs H Q E h => ar2 h) (fun cdv A fr s H vs Q E hr h => ⟨_, PSs.nox (pss_one (ps_ret (pe_call (ok_steps_with T) hr (by rfl) T.g_steps_with T.F_steps_with.kp T.b_steps_with .nil passL (pa_cons (pv 0) (pa_cons (pv 1) (pa_cons (pe_call (ok_rounds_of T) hr (by rfl) T.g_rounds_of T.F_rounds_of.kp T.b_rounds_of .nil passL (pa_cons (pv 0) (pa_cons (pv 1) pa_nil))) pa_nil)))))), ?_⟩)
  obtain ⟨_, _, rfl, n, s, rfl, rfl, h1, h2, h3, h4, q⟩ := h
  walk_at "rd"
  unfold sp_rounds_of sp_steps_with
  walk_at "rd"
  exact ⟨h1, h2, h3, h4, fun H' e => ⟨h1, by omega, h3, h4, q H' e⟩⟩
def sp_least_steps (K : PySem.W.Frag) : Sp := sp2 fun a b H Q _ => ∃ (n s : Int), a = .int n ∧ b = .int s ∧ 1 ≤ n ∧ n ≤ 10 ^ 30 ∧ 1 ≤ s ∧ s ≤ 100 ∧ ∀ H', Ex H H' → Q (.int (tz n s)) H'
theorem sc_least_steps : FnScope ["length", "slots"] ["length", "slots"] (defScope s_least_steps) := ⟨rfl, rfl, rfl, by decide +kernel, rfl, by decide +kernel, by decide +kernel⟩
theorem ok_least_steps (T : Txt P w K mg base) : FnOk P w K mg base (L2.CX P w) 5 T.a_least_steps T.fd_least_steps ["length", "slots"] (sp_least_steps K) := by
  refine FunD.ok T.F_least_steps sc_least_steps (fun vs H Q E h => ar2 h) (fun cdv A fr s H vs Q E hr h => ⟨_, PSs.nox (pss_cons (ps_expr (pe_call (ok_require_task T) hr (by rfl) T.g_require_task T.F_require_task.kp T.b_require_task .nil passL (pa_cons (pv 0) (pa_cons (pv 1) pa_nil)))) (pss_one (ps_ret (pe_call (ok_least_of T) (hr.mono (by decide)) (by rfl) T.g_least_of T.F_least_of.kp T.b_least_of .nil passL (pa_cons (pv 0) (pa_cons (pv 1) pa_nil)))))), ?_⟩)
  obtain ⟨_, _, rfl, n, s, rfl, rfl, h1, h2, h3, h4, q⟩ := h
  walk_at "rd"
  unfold sp_require_task sp_least_of
  walk_at "rd"
  exact ⟨h1, h2, h3, h4, h1, h2, h3, by omega, q⟩
/-! ### parts of plans -/
theorem Rz_med {s r : Int} (h1 : s ≤ 102) (h2 : r ≤ 1100) : Rz s r < MED := by
  unfold Rz
  have hB := med_200
  split
  · split <;> omega
  · have h := R_le s.toNat r.toNat
    have h3 : (((r.toNat + 1) ^ s.toNat : Nat) : Int) < MED := med_pow (a := 11) (b := 102) (by decide) (by omega) (by omega)
    omega
theorem med_big : MED ≤ BIG := by
  unfold MED BIG
  have h : (2 : Nat) ^ 1900 ≤ 2 ^ 100000 := Nat.pow_le_pow_right (by decide) (by decide)
  have h2 : ((2 ^ 1900 : Nat) : Int) ≤ ((2 ^ 100000 : Nat) : Int) := Int.ofNat_le.mpr h
  rw [Int.natCast_pow, Int.natCast_pow] at h2
  exact h2
/-- a task of not too many rounds -/
def PB (n s : Int) : Prop := 1 ≤ n ∧ n ≤ 10 ^ 30 ∧ 1 ≤ s ∧ s ≤ 100 ∧ rho n s ≤ 1000
theorem PB.rest {n s : Int} (h : PB n s) (hn : 2 ≤ n) (hs : 2 ≤ s) : PB (n - hiz n s) (s - 1) := by
  obtain ⟨a, b, c⟩ := loz_range hn hs
  have r := rest_rho hn hs
  obtain ⟨h1, h2, h3, h4, h5⟩ := h
  refine ⟨by omega, by omega, by omega, by omega, ?_⟩
  rw [r]
  split <;> omega
theorem PB.ahead {n s : Int} (h : PB n s) (hn : 2 ≤ n) (hs : 2 ≤ s) : PB (hiz n s) s := by
  obtain ⟨a, b, c⟩ := loz_range hn hs
  have r := ahead_rho hn hs
  obtain ⟨h1, h2, h3, h4, h5⟩ := h
  refine ⟨by omega, by omega, by omega, by omega, ?_⟩
  rw [r]
  split <;> omega
theorem PB.big {n s : Int} (h : PB n s) : 0 ≤ rho n s ∧ 0 ≤ Rz s (rho n s) ∧ Rz s (rho n s) < BIG ∧ 10 ^ 200 < BIG := by
  obtain ⟨h1, h2, h3, h4, h5⟩ := h
  have a := Rz_med (s := s) (r := rho n s) (by omega) (by omega)
  have b := med_big
  have c := big_200
  have d := med_200
  refine ⟨rho_nonneg _ _, Rz_nonneg _ _, by omega, ?_⟩
  have e : (10 : Int) ^ 200 < MED := by
    unfold MED
    have h : (10 : Nat) ^ 200 < 2 ^ 1900 := by
      calc (10 : Nat) ^ 200 < 16 ^ 200 := Nat.pow_lt_pow_left (by decide) (by decide)
        _ = 2 ^ 800 := by rw [show (16 : Nat) = 2 ^ 4 by rfl, ← Nat.pow_mul]
        _ ≤ 2 ^ 1900 := Nat.pow_le_pow_right (by decide) (by decide)
    have h2 : ((10 ^ 200 : Nat) : Int) < ((2 ^ 1900 : Nat) : Int) := Int.ofNat_lt.mpr h
    rw [Int.natCast_pow, Int.natCast_pow] at h2
    exact h2
  omega
def sp_closed_count (K : PySem.W.Frag) : Sp := sp1 fun x H Q _ => ∃ (a : Addr) (n s : Int), x = .ref a ∧ H a = some (.tup ((partT n s).map V.int)) ∧ PB n s ∧ (Full n s → Q (.int (opsN n s)) H) ∧ (¬ Full n s → Q .non H)
theorem sc_closed_count : FnScope ["some", "length", "slots", "rounds", "reached"] ["some"] (defScope s_closed_count) := ⟨rfl, rfl, rfl, by decide +kernel, rfl, by decide +kernel, by decide +kernel⟩
theorem ok_closed_count (T : Txt P w K mg base) : FnOk P w K mg base (L2.CX P w) 1 T.a_closed_count T.fd_closed_count ["some"] (sp_closed_count K) := by
  refine FunD.ok T.F_closed_count sc_closed_count (fun vs H Q E h => ar1 h) (fun cdv A fr s H vs Q E hr h => ⟨_, PSs.nox (pss_cons (ps_asg (pv 0) (pg_tupT (n := 4) rfl (pgs_cons (pg_name (i := 1) sc_closed_count.nd rfl (.inl rfl)) (pgs_cons (pg_name (i := 2) sc_closed_count.nd rfl (.inl rfl)) (pgs_cons (pg_name (i := 3) sc_closed_count.nd rfl (.inl rfl)) (pgs_cons (pg_name (i := 4) sc_closed_count.nd rfl (.inl rfl)) pgs_nil)))))) (pss_cons (ps_if (pt_cmpR op_eq (pv 1) (pv 4) (nomark _)) (pss_one (ps_ret (pe_op op_sub (pe_op op_add (pe_op op_mulB pe_int (pv 4)) (pe_op op_mulB pe_int (pe_op op_divB (pe_op op_mulB (pv 4) (pv 2)) (pe_op op_add (pv 2) (pv 3))))) pe_int))) pss_nil) (pss_one (ps_ret (pe_ifExp (pt_cmpR op_eq (pv 2) pe_int (nomark _)) (pe_op op_sub (pe_op op_mulB pe_int (pv 1)) pe_int) pe_non))))), ?_⟩)
  obtain ⟨_, rfl, a, n, s, rfl, ha, hb, q1, q2⟩ := h
  walk_at "rd"
  simp only [ha, partT]
  walk_at "rd"
  obtain ⟨b1, b2, b3, b4⟩ := hb.big
  obtain ⟨h1, h2, h3, h4, h5⟩ := hb
  refine ite2 (fun h => ?_) fun h => ?_
  · have t := term_slots (s := s) (r := rho n s) (by omega) b1
    have c := opsN_closed (s := s) (r := rho n s) (by omega) b1
    have q := q1 h
    have nn : 0 ≤ Rz (s - 1) (rho n s) ∧ Rz (s - 1) (rho n s) < BIG := by
      have a := Rz_med (s := s - 1) (r := rho n s) (by omega) (by omega)
      have b := med_big
      exact ⟨Rz_nonneg _ _, by omega⟩
    rw [t]
    refine ⟨by unfold CMulB; omega, by unfold CMulB; omega, by unfold CDivB; omega, by unfold CMulB; omega, ?_⟩
    rw [← h] at c
    rw [show 3 * Rz s (rho n s) + 2 * Rz (s - 1) (rho n s) - 4 = opsN n s by rw [← h]; omega]
    exact q
  · refine ite2 (fun e => ?_) fun e => q2 h
    subst e
    exact absurd (full_row h1 h3 (.inr (by omega))) h
def sp_halves_of (K : PySem.W.Frag) : Sp := sp1 fun x H Q _ => ∃ (a : Addr) (n s : Int), x = .ref a ∧ H a = some (.tup ((partT n s).map V.int)) ∧ PB n s ∧ 2 ≤ n ∧ 2 ≤ s ∧
  ∀ p b c H', H p = none → Ex H H' → H' p = some (.tup [.int (hiz n s), .ref b, .ref c]) → H' b = some (.tup ((partT (n - hiz n s) (s - 1)).map V.int)) → H' c = some (.tup ((partT (hiz n s) s).map V.int)) → Q (.ref p) H'
theorem sc_halves_of : FnScope ["some", "length", "slots", "rounds", "reached", "less", "least", "other", "fewer", "split", "behind", "ahead"] ["some"] (defScope s_halves_of) := ⟨rfl, rfl, rfl, by decide +kernel, rfl, by decide +kernel, by decide +kernel⟩
theorem ok_halves_of (T : Txt P w K mg base) : FnOk P w K mg base (L2.CX P w) 1 T.a_halves_of T.fd_halves_of ["some"] (sp_halves_of K) := by
  refine FunD.ok T.F_halves_of sc_halves_of (fun vs H Q E h => ar1 h) (fun cdv A fr s H vs Q E hr h => ⟨_, PSs.nox (Evl.pss_cut (ps_asg (pv 0) (pg_tupT (n := 4) rfl (pgs_cons (pg_name (i := 1) sc_halves_of.nd rfl (.inl rfl)) (pgs_cons (pg_name (i := 2) sc_halves_of.nd rfl (.inl rfl)) (pgs_cons (pg_name (i := 3) sc_halves_of.nd rfl (.inl rfl)) (pgs_cons (pg_name (i := 4) sc_halves_of.nd rfl (.inl rfl)) pgs_nil)))))) (Evl.pss_cut (ps_set (i := 5) sc_halves_of.nd rfl (.inl rfl) (pe_op op_divB (pe_op op_mulB (pv 4) (pv 3)) (pe_op op_add (pv 2) (pv 3)))) (Evl.pss_cut (ps_set (i := 6) sc_halves_of.nd rfl (.inl rfl) (pe_op op_divB (pe_op op_mulB (pv 5) (pe_op op_sub (pv 3) pe_int)) (pe_op op_sub (pe_op op_add (pv 2) (pv 3)) pe_int))) (Evl.pss_cut (ps_par (i := 7) (j := 8) (by rfl) sc_halves_of.nd rfl rfl (by decide) rfl rfl (pa_cons (pe_op op_sub (pv 4) (pv 5)) (pa_cons (pe_op op_sub (pv 5) (pv 6)) pa_nil)) (by rfl)) (Evl.pss_cut (ps_set (i := 9) sc_halves_of.nd rfl (.inl rfl) (pe_callB (call_min3 rfl) (by rfl) T.n_min (by decide +kernel) (pa_cons (pe_op op_sub (pv 1) pe_int) (pa_cons (pv 5) (pa_cons (pe_op op_sub (pv 1) (pv 8)) pa_nil))))) (pss_cons (ps_set (i := 10) sc_halves_of.nd rfl (.inl rfl) (pe_tup (pa_cons (pe_op op_sub (pv 1) (pv 9)) (pa_cons (pe_op op_sub (pv 2) pe_int) (pa_cons (pv 3) (pa_cons (pv 7) pa_nil)))))) (pss_cons (ps_if (pt_cmpR op_eq (pe_op op_sub (pv 1) (pv 9)) (pv 8) (nomark _)) (pss_one (ps_set (i := 10) sc_halves_of.nd rfl (.inl rfl) (pe_tup (pa_cons (pv 8) (pa_cons (pe_op op_sub (pv 2) pe_int) (pa_cons (pe_op op_sub (pv 3) pe_int) (pa_cons (pv 8) pa_nil))))))) pss_nil) (pss_cons (ps_set (i := 11) sc_halves_of.nd rfl (.inl rfl) (pe_tup (pa_cons (pv 9) (pa_cons (pv 2) (pa_cons (pe_op op_sub (pv 3) pe_int) (pa_cons (pv 5) pa_nil)))))) (pss_one (ps_ret (pe_tup (pa_cons (pv 9) (pa_cons (pv 10) (pa_cons (pe_ifExp (pt_cmpR op_eq (pv 9) (pv 6) (nomark _)) (pe_tup (pa_cons (pv 6) (pa_cons (pv 2) (pa_cons (pe_op op_sub (pv 3) pe_int) (pa_cons (pv 6) pa_nil))))) (pv 11)) pa_nil)))))))))))))), ?_⟩)
  obtain ⟨_, rfl, a, n, s, rfl, ha, hb, hn, hs, q⟩ := h
  obtain ⟨b1, b2, b3, b4⟩ := hb.big
  have hr := rho_pos (n := n) (s := s) hn (by omega)
  obtain ⟨l1, l2, l3⟩ := loz_range hn hs
  obtain ⟨h1, h2, h3, h4, h5⟩ := hb
  have t1 := term_less (s := s) (r := rho n s) (by omega) b1
  have t2 := term_less (s := s) (r := rho n s - 1) (by omega) (by omega)
  have m1 : 0 ≤ Rz s (rho n s - 1) ∧ Rz s (rho n s - 1) < BIG := by
    have a := Rz_med (s := s) (r := rho n s - 1) (by omega) (by omega)
    have b := med_big
    exact ⟨Rz_nonneg _ _, by omega⟩
  have e1 := Rz_next (s := s - 1) (r := rho n s) (by omega) (by omega)
  have e2 := Rz_next (s := s - 1) (r := rho n s - 1) (by omega) (by omega)
  rw [show s - 1 + 1 = s by omega] at e1 e2
  rw [show rho n s - 1 - 1 = rho n s - 2 by omega] at e2 t2
  refine Evl.q_cut (M := fun σ' H' => σ' = [some (.ref a), some (.int n), some (.int s), some (.int (rho n s)), some (.int (Rz s (rho n s))), none, none, none, none, none, none, none] ∧ H = H') ?_ ?_
  · walk_at "rd"
    simp only [ha, partT]
    walk_at "rd"
  rintro σ _ ⟨rfl, rfl⟩
  refine Evl.q_cut (M := fun σ' H' => σ' = [some (.ref a), some (.int n), some (.int s), some (.int (rho n s)), some (.int (Rz s (rho n s))), some (.int (Rz s (rho n s - 1))), none, none, none, none, none, none] ∧ H = H') ?_ ?_
  · walk_at "rd"
    rw [t1]
    exact ⟨by unfold CMulB; omega, by unfold CDivB; omega, rfl⟩
  rintro σ _ ⟨rfl, rfl⟩
  refine Evl.q_cut (M := fun σ' H' => σ' = [some (.ref a), some (.int n), some (.int s), some (.int (rho n s)), some (.int (Rz s (rho n s))), some (.int (Rz s (rho n s - 1))), some (.int (Rz s (rho n s - 2))), none, none, none, none, none] ∧ H = H') ?_ ?_
  · walk_at "rd"
    rw [show s + rho n s - 1 = s + (rho n s - 1) by omega, t2]
    exact ⟨by unfold CMulB; omega, by unfold CDivB; omega, rfl⟩
  rintro σ _ ⟨rfl, rfl⟩
  refine Evl.q_cut (M := fun σ' H' => σ' = [some (.ref a), some (.int n), some (.int s), some (.int (rho n s)), some (.int (Rz s (rho n s))), some (.int (Rz s (rho n s - 1))), some (.int (Rz s (rho n s - 2))), some (.int (Rz (s - 1) (rho n s))), some (.int (Rz (s - 1) (rho n s - 1))), none, none, none] ∧ H = H') ?_ ?_
  · walk_at "rd"
    exact ⟨by omega, by omega⟩
  rintro σ _ ⟨rfl, rfl⟩
  refine Evl.q_cut (M := fun σ' H' => σ' = [some (.ref a), some (.int n), some (.int s), some (.int (rho n s)), some (.int (Rz s (rho n s))), some (.int (Rz s (rho n s - 1))), some (.int (Rz s (rho n s - 2))), some (.int (Rz (s - 1) (rho n s))), some (.int (Rz (s - 1) (rho n s - 1))), some (.int (hiz n s)), none, none] ∧ H = H') ?_ ?_
  · walk_at "rd"
    unfold hiz
    exact rfl
  rintro σ _ ⟨rfl, rfl⟩
  walk_at "rd"
  have tail : ∀ (H1 : Hp) (b : Addr), Ex H H1 → H1 b = some (.tup ((restT n s).map V.int)) → ∀ p2, H1 p2 = none → (if hiz n s = Rz s (rho n s - 2) then ∀ p3, (upd H1 p2 (.tup [.int (hiz n s), .int s, .int (rho n s - 1), .int (Rz s (rho n s - 1))])) p3 = none → ∀ p4, (upd (upd H1 p2 (.tup [.int (hiz n s), .int s, .int (rho n s - 1), .int (Rz s (rho n s - 1))])) p3 (.tup [.int (Rz s (rho n s - 2)), .int s, .int (rho n s - 2), .int (Rz s (rho n s - 2))])) p4 = none →
        Q (.ref p4) (upd (upd (upd H1 p2 (.tup [.int (hiz n s), .int s, .int (rho n s - 1), .int (Rz s (rho n s - 1))])) p3 (.tup [.int (Rz s (rho n s - 2)), .int s, .int (rho n s - 2), .int (Rz s (rho n s - 2))])) p4 (.tup [.int (hiz n s), .ref b, .ref p3]))
      else ∀ p3, (upd H1 p2 (.tup [.int (hiz n s), .int s, .int (rho n s - 1), .int (Rz s (rho n s - 1))])) p3 = none → Q (.ref p3) (upd (upd H1 p2 (.tup [.int (hiz n s), .int s, .int (rho n s - 1), .int (Rz s (rho n s - 1))])) p3 (.tup [.int (hiz n s), .ref b, .ref p2]))) := by
    intro H1 b e hb p2 hp2
    have fin : ∀ (c p : Addr) (H2 : Hp), Ex H1 H2 → H2 p = none → H2 c = some (.tup ((aheadT n s).map V.int)) → Q (.ref p) (upd H2 p (.tup [.int (hiz n s), .ref b, .ref c])) := by
      intro c p H2 e2 hp hc
      have hb2 := e2 _ _ hb
      rw [restT_eq hn hs] at hb2
      rw [aheadT_eq hn hs] at hc
      exact q p b c _ (Evl.fresh_back (e.trans e2) hp) ((e.trans e2).trans (exn hp)) upd_same (exn hp _ _ hb2) (exn hp _ _ hc)
    refine ite2 (fun h p3 hp3 p4 hp4 => ?_) fun h p3 hp3 => ?_
    · exact fin p3 p4 _ ((exn hp2).trans (exn hp3)) hp4 (by unfold aheadT; rw [upd_same, if_pos h]; rfl)
    · exact fin p2 p3 _ (exn hp2) hp3 (by unfold aheadT; rw [upd_same, if_neg h]; rfl)
  intro p hp
  refine ite2 (fun h p1 hp1 => ?_) fun h => ?_
  · exact tail _ p1 ((exn hp).trans (exn hp1)) (by unfold restT; rw [upd_same, if_pos h]; rfl)
  · exact tail _ p (exn hp) (by unfold restT; rw [upd_same, if_neg h]; rfl)
def sp_own_operations (K : PySem.W.Frag) : Sp := sp1 fun x H Q _ => ∃ (a : Addr) (m : Int) (r : List V), x = .ref a ∧ H a = some (.tup (.int m :: r)) ∧ Q (.int (if m > 1 then 4 else 2)) H
theorem sc_own_operations : FnScope ["behind"] ["behind"] (defScope s_own_operations) := ⟨rfl, rfl, rfl, by decide +kernel, rfl, by decide +kernel, by decide +kernel⟩
theorem ok_own_operations (T : Txt P w K mg base) : FnOk P w K mg base (L2.CX P w) 1 T.a_own_operations T.fd_own_operations ["behind"] (sp_own_operations K) := by
  refine FunD.ok T.F_own_operations sc_own_operations (fun vs H Q E h => ar1 h) (fun cdv A fr s H vs Q E hr h => ⟨_, PSs.nox (pss_one (ps_ret (pe_ifExp (pt_cmpR op_gt (pe_ix ix_tupT (pv 0) pe_int (fun _ _ => rfl)) pe_int (nomark _)) pe_int pe_int))), ?_⟩)
  obtain ⟨_, rfl, a, m, r, rfl, ha, q⟩ := h
  walk_at "rd"
  refine ⟨_, ha, ?_⟩
  walk_at "rd"
  by_cases h : 1 < m
  · rw [if_pos h] at *
    exact q
  · rw [if_neg h] at *
    exact q
def sp_count_of (K : PySem.W.Frag) : Sp := sp1 fun x H Q _ => ∃ (a : Addr) (n s : Int), x = .ref a ∧ H a = some (.tup ((partT n s).map V.int)) ∧ PB n s ∧ ∀ H', Ex H H' → Q (.int (opsN n s)) H'
theorem sc_count_of : FnScope ["some", "found", "left", "split", "behind", "ahead"] ["some"] (defScope s_count_of) := ⟨rfl, rfl, rfl, by decide +kernel, rfl, by decide +kernel, by decide +kernel⟩
theorem ok_count_of (T : Txt P w K mg base) : FnOk P w K mg base (L2.CX P w) 2 T.a_count_of T.fd_count_of ["some"] (sp_count_of K) := by
  refine FunD.ok T.F_count_of sc_count_of (fun vs H Q E h => ar1 h) (fun cdv A fr s H vs Q E hr h => ⟨_, PSs.nox (pss_cons (ps_par (i := 1) (j := 2) (by rfl) sc_count_of.nd rfl rfl (by decide) rfl rfl (pa_cons pe_int (pa_cons (pv 0) pa_nil)) (by rfl)) (pss_cons (ps_while PassesOwn.never (pt_cmpR op_isN (pe_call (ok_closed_count T) hr (by rfl) T.g_closed_count T.F_closed_count.kp T.b_closed_count .nil passL (pa_cons (pv 2) pa_nil)) pe_non (nomark _)) (pss_cons (ps_asg (pe_call (ok_halves_of T) hr (by rfl) T.g_halves_of T.F_halves_of.kp T.b_halves_of .nil passL (pa_cons (pv 2) pa_nil)) (pg_tupT (n := 3) rfl (pgs_cons (pg_name (i := 3) sc_count_of.nd rfl (.inl rfl)) (pgs_cons (pg_name (i := 4) sc_count_of.nd rfl (.inl rfl)) (pgs_cons (pg_name (i := 5) sc_count_of.nd rfl (.inl rfl)) pgs_nil))))) (pss_cons (ps_aug (i := 1) sc_count_of.nd rfl (.inl rfl) (pe_call (ok_own_operations T) hr (by rfl) T.g_own_operations T.F_own_operations.kp T.b_own_operations .nil passL (pa_cons (pv 4) pa_nil)) ip_add) (pss_one (ps_if (pt_cmpR op_isN (pe_call (ok_closed_count T) hr (by rfl) T.g_closed_count T.F_closed_count.kp T.b_closed_count .nil passL (pa_cons (pv 4) pa_nil)) pe_non (nomark _)) (pss_one (ps_par (i := 1) (j := 2) (by rfl) sc_count_of.nd rfl rfl (by decide) rfl rfl (pa_cons (pe_op op_add (pv 1) (pe_call (ok_closed_count T) hr (by rfl) T.g_closed_count T.F_closed_count.kp T.b_closed_count .nil passL (pa_cons (pv 5) pa_nil))) (pa_cons (pv 4) pa_nil)) (by rfl))) (pss_one (ps_par (i := 1) (j := 2) (by rfl) sc_count_of.nd rfl rfl (by decide) rfl rfl (pa_cons (pe_op op_add (pv 1) (pe_call (ok_closed_count T) hr (by rfl) T.g_closed_count T.F_closed_count.kp T.b_closed_count .nil passL (pa_cons (pv 4) pa_nil))) (pa_cons (pv 5) pa_nil)) (by rfl)))))))) (pss_one (ps_ret (pe_op op_add (pv 1) (pe_call (ok_closed_count T) hr (by rfl) T.g_closed_count T.F_closed_count.kp T.b_closed_count .nil passL (pa_cons (pv 2) pa_nil))))))), ?_⟩)
  obtain ⟨_, rfl, a, n, s, rfl, ha, hb, q⟩ := h
  walk_at "rd"
  refine ⟨fun m σ H' => Ex H H' ∧ ∃ (f : Int) (l : Addr) (n' s' : Int) (x y z : Option V), σ = [some (.ref a), some (.int f), some (.ref l), x, y, z] ∧ H' l = some (.tup ((partT n' s').map V.int)) ∧ PB n' s' ∧ f + opsN n' s' = opsN n s ∧ m = n'.toNat,
    ⟨_, .refl _, 0, a, n, s, _, _, _, rfl, ha, hb, by omega, rfl⟩, ?_⟩
  rintro m σ H' ⟨e, f, l, n', s', x, y, z, rfl, hl, hb', hf, rfl⟩
  walk_at "rd"
  unfold sp_closed_count sp_halves_of sp_own_operations
  walk_at "rd"
  refine ⟨n', s', hl, hb', fun hF => ?_, fun hF => ?_⟩
  · exact ⟨n', s', hl, hb', fun _ => by rw [hf]; exact q _ e, fun h => absurd hF h⟩
  · have two : 2 ≤ n' ∧ 2 ≤ s' := by
      have := mt (full_row (n := n') (s := s') hb'.1 hb'.2.2.1) hF
      omega
    obtain ⟨hn, hs⟩ := two
    obtain ⟨l1, l2, l3⟩ := loz_range hn hs
    refine ⟨fun σ' H'' => Ex H H'' ∧ ∃ (f : Int) (l : Addr) (n2 s2 : Int) (x y z : Option V), σ' = [some (.ref a), some (.int f), some (.ref l), x, y, z] ∧ H'' l = some (.tup ((partT n2 s2).map V.int)) ∧ PB n2 s2 ∧ f + opsN n2 s2 = opsN n s ∧ n2.toNat < n'.toNat,
      fun σ' H'' ⟨e, f, l, n2, s2, x, y, z, e1, e2, e3, e4, e5⟩ => ⟨_, e5, e, f, l, n2, s2, x, y, z, e1, e2, e3, e4, rfl⟩, ?_⟩
    refine ⟨n', s', hl, hb', hn, hs, fun p b c H1 hp e1 h1 h2 h3 => ?_⟩
    simp only [h1]
    walk_at "rd"
    have pr := hb'.rest hn hs
    have pa := hb'.ahead hn hs
    have e2 := opsN_two hn hs
    refine ⟨_, _, h2, _, _, h2, pr, fun hF2 => ?_, fun hF2 => ?_⟩
    · refine ⟨_, _, h2, pr, fun _ => ?_, fun h => absurd hF2 h⟩
      exact ⟨e.trans e1, _, _, h3, pa, by omega, by omega⟩
    · have hF3 := (one_full hn hs).resolve_left hF2
      refine ⟨_, _, h3, pa, fun _ => ?_, fun h => absurd hF3 h⟩
      exact ⟨e.trans e1, _, _, h2, pr, by omega, by omega⟩
def planT (b n s : Int) : List Int := [b, n, s, rho n s, Rz s (rho n s), opsN n s]
def sp_parts_of (K : PySem.W.Frag) : Sp := sp1 fun x H Q _ => ∃ (a : Addr) (b n s : Int), x = .ref a ∧ H a = some (.tup ((planT b n s).map V.int)) ∧ PB n s ∧ 2 ≤ n ∧ 2 ≤ s ∧
  ∀ p c d H', H p = none → Ex H H' → H' p = some (.tup [.int (hiz n s), .ref c, .ref d]) → H' c = some (.tup ((planT (b + hiz n s) (n - hiz n s) (s - 1)).map V.int)) → H' d = some (.tup ((planT b (hiz n s) s).map V.int)) → Q (.ref p) H'
theorem sc_parts_of : FnScope ["part", "split", "behind", "ahead", "many", "rest"] ["part"] (defScope s_parts_of) := ⟨rfl, rfl, rfl, by decide +kernel, rfl, by decide +kernel, by decide +kernel⟩
theorem ok_parts_of (T : Txt P w K mg base) : FnOk P w K mg base (L2.CX P w) 2 T.a_parts_of T.fd_parts_of ["part"] (sp_parts_of K) := by
  refine FunD.ok T.F_parts_of sc_parts_of (fun vs H Q E h => ar1 h) (fun cdv A fr s H vs Q E hr h => ⟨_, PSs.nox (Evl.pss_cut (ps_asg (pe_call (ok_halves_of T) hr (by rfl) T.g_halves_of T.F_halves_of.kp T.b_halves_of .nil passL (pa_cons (pe_slice (r := rSlT K) sl_tup (pv 0) (po_some pe_int) (po_some pe_int)) pa_nil)) (pg_tupT (n := 3) rfl (pgs_cons (pg_name (i := 1) sc_parts_of.nd rfl (.inl rfl)) (pgs_cons (pg_name (i := 2) sc_parts_of.nd rfl (.inl rfl)) (pgs_cons (pg_name (i := 3) sc_parts_of.nd rfl (.inl rfl)) pgs_nil))))) (Evl.pss_cut (ps_set (i := 4) sc_parts_of.nd rfl (.inl rfl) (pe_call (ok_closed_count T) hr (by rfl) T.g_closed_count T.F_closed_count.kp T.b_closed_count .nil passL (pa_cons (pv 2) pa_nil))) (Evl.pss_cut (ps_if (pt_cmpR op_isN (pv 4) pe_non (nomark _)) (pss_one (ps_set (i := 4) sc_parts_of.nd rfl (.inl rfl) (pe_op op_sub (pe_op op_sub (pe_ix ix_tupT (pv 0) pe_int (fun _ _ => rfl)) (pe_call (ok_own_operations T) hr (by rfl) T.g_own_operations T.F_own_operations.kp T.b_own_operations .nil passL (pa_cons (pv 2) pa_nil))) (pe_call (ok_closed_count T) hr (by rfl) T.g_closed_count T.F_closed_count.kp T.b_closed_count .nil passL (pa_cons (pv 3) pa_nil))))) pss_nil) (pss_cons (ps_set (i := 5) sc_parts_of.nd rfl (.inl rfl) (pe_op op_sub (pe_op op_sub (pe_ix ix_tupT (pv 0) pe_int (fun _ _ => rfl)) (pe_call (ok_own_operations T) hr (by rfl) T.g_own_operations T.F_own_operations.kp T.b_own_operations .nil passL (pa_cons (pv 2) pa_nil))) (pv 4))) (pss_one (ps_ret (pe_tup (pa_cons (pv 1) (pa_cons (pe_tup (pa_cons (pe_op op_add (pe_ix ix_tupT (pv 0) pe_int (fun _ _ => rfl)) (pv 1)) (StX.pa_star (pv 2) (pa_cons (pv 4) pa_nil)))) (pa_cons (pe_tup (pa_cons (pe_ix ix_tupT (pv 0) pe_int (fun _ _ => rfl)) (StX.pa_star (pv 3) (pa_cons (pv 5) pa_nil)))) pa_nil)))))))))), ?_⟩)
  obtain ⟨_, rfl, a, b, n, s, rfl, ha, hb, hn, hs, q⟩ := h
  obtain ⟨l1, l2, l3⟩ := loz_range hn hs
  refine Evl.q_cut (M := fun σ' H' => ∃ c d, σ' = [some (.ref a), some (.int (hiz n s)), some (.ref c), some (.ref d), none, none] ∧ Ex H H' ∧ H' c = some (.tup ((partT (n - hiz n s) (s - 1)).map V.int)) ∧ H' d = some (.tup ((partT (hiz n s) s).map V.int))) ?_ ?_
  · unfold sp_halves_of
    walk_at "rd"
    refine ⟨_, sq_t ha, fun h => absurd h.1 (show ¬ ((1 : Nat) = 0) by decide), fun p hp => ?_⟩
    refine ⟨n, s, by rfl, hb, hn, hs, fun p2 c d H2 hp2 e2 h1 h2 h3 => ?_⟩
    simp only [h1]
    walk_at "rd"
    exact ⟨(exn hp).trans e2, h2, h3⟩
  rintro σ H1 ⟨c, d, rfl, e1, hc, hd⟩
  have ha1 := e1 _ _ ha
  have pr := hb.rest hn hs
  have pa := hb.ahead hn hs
  have e2 := opsN_two hn hs
  refine Evl.q_cut (M := fun σ' H' => σ' = [some (.ref a), some (.int (hiz n s)), some (.ref c), some (.ref d), some (if Full (n - hiz n s) (s - 1) then .int (opsN (n - hiz n s) (s - 1)) else .non), none] ∧ H1 = H') ?_ ?_
  · unfold sp_closed_count
    walk_at "rd"
    exact ⟨_, _, hc, pr, fun h => by rw [if_pos h], fun h => by rw [if_neg h]⟩
  rintro σ _ ⟨rfl, rfl⟩
  refine Evl.q_cut (M := fun σ' H' => σ' = [some (.ref a), some (.int (hiz n s)), some (.ref c), some (.ref d), some (.int (opsN (n - hiz n s) (s - 1))), none] ∧ H1 = H') ?_ ?_
  · unfold sp_closed_count sp_own_operations
    by_cases hF : Full (n - hiz n s) (s - 1)
    · rw [if_pos hF]
      walk_at "rd"
    · rw [if_neg hF]
      have hF3 := (one_full hn hs).resolve_left hF
      walk_at "rd"
      refine ⟨_, ha1, _, atI_5, ?_⟩
      walk_at "rd"
      refine ⟨_, _, hc, _, _, hd, pa, fun _ => ?_, fun h => absurd hF3 h⟩
      rw [e2]
      omega
  rintro σ _ ⟨rfl, rfl⟩
  unfold sp_own_operations
  walk_at "rd"
  refine ⟨_, ha1, _, atI_5, _, _, hc, ?_⟩
  walk_at "rd"
  refine ⟨_, ha1, _, atI_0, ?_⟩
  walk_at "rd"
  refine ⟨_, .inl (sq_t hc), by simp [partT], fun p hp => ?_⟩
  have e3 := exn (o := .tup (.int (b + hiz n s) :: ((partT (n - hiz n s) (s - 1)).map V.int ++ [.int (opsN (n - hiz n s) (s - 1))]))) hp
  refine ⟨_, e3 _ _ ha1, _, atI_0, _, .inl (sq_t (e3 _ _ hd)), by simp [partT], fun p2 hp2 p3 hp3 => ?_⟩
  have ee : opsN n s - (if 1 < n - hiz n s then 4 else 2) - opsN (n - hiz n s) (s - 1) = opsN (hiz n s) s := by
    rw [e2]
    omega
  rw [ee] at hp3 ⊢
  exact q p3 p p2 _ (Evl.fresh_back (((e1.trans e3).trans (exn hp2))) hp3) ((((e1.trans e3).trans (exn hp2))).trans (exn hp3)) upd_same (exn hp3 _ _ (exn hp2 _ _ upd_same)) (exn hp3 _ _ upd_same)
def sp_whole_plan (K : PySem.W.Frag) : Sp := sp2 fun x y H Q _ => ∃ (n s : Int), x = .int n ∧ y = .int s ∧ PB n s ∧ ∀ p H', H p = none → Ex H H' → H' p = some (.tup ((planT 0 n s).map V.int)) → Q (.ref p) H'
theorem sc_whole_plan : FnScope ["length", "slots", "rounds", "some"] ["length", "slots"] (defScope s_whole_plan) := ⟨rfl, rfl, rfl, by decide +kernel, rfl, by decide +kernel, by decide +kernel⟩
theorem ok_whole_plan (T : Txt P w K mg base) : FnOk P w K mg base (L2.CX P w) 5 T.a_whole_plan T.fd_whole_plan ["length", "slots"] (sp_whole_plan K) := by
  refine FunD.ok T.F_whole_plan sc_whole_plan (fun vs H Q E h => ar2 h) (fun cdv A fr s H vs Q E hr h => ⟨_, PSs.nox (pss_cons (ps_expr (pe_call (ok_require_task T) hr (by rfl) T.g_require_task T.F_require_task.kp T.b_require_task .nil passL (pa_cons (pv 0) (pa_cons (pv 1) pa_nil)))) (pss_cons (ps_set (i := 2) sc_whole_plan.nd rfl (.inl rfl) (pe_call (ok_rounds_of T) (hr.mono (by decide)) (by rfl) T.g_rounds_of T.F_rounds_of.kp T.b_rounds_of .nil passL (pa_cons (pv 0) (pa_cons (pv 1) pa_nil)))) (pss_cons (ps_if (pt_cmpR op_gt (pv 2) (pe_glob (v := .int 1000) (by rfl) T.c_MOST_ROUNDS ⟨_, rfl⟩) (nomark _)) (pss_one ps_never) pss_nil) (pss_cons (ps_set (i := 3) sc_whole_plan.nd rfl (.inl rfl) (pe_tup (pa_cons (pv 0) (pa_cons (pv 1) (pa_cons (pv 2) (pa_cons (pe_call (ok_reach_of T) (hr.mono (by decide)) (by rfl) T.g_reach_of T.F_reach_of.kp T.b_reach_of .nil passL (pa_cons (pv 1) (pa_cons (pv 2) pa_nil))) pa_nil)))))) (pss_one (ps_ret (pe_tup (pa_cons pe_int (StX.pa_star (pv 3) (pa_cons (pe_call (ok_count_of T) (hr.mono (by decide)) (by rfl) T.g_count_of T.F_count_of.kp T.b_count_of .nil passL (pa_cons (pv 3) pa_nil)) pa_nil)))))))))), ?_⟩)
  obtain ⟨_, _, rfl, n, s, rfl, rfl, hb, q⟩ := h
  have hb' := hb
  obtain ⟨h1, h2, h3, h4, h5⟩ := hb'
  have r0 := rho_nonneg n s
  unfold sp_require_task sp_rounds_of sp_reach_of sp_count_of
  walk_at "rd"
  refine ⟨h1, h2, h3, h4, h1, h2, h3, by omega, fun H2 e2 => iteNo (by omega) ⟨by omega, by omega, by omega, by omega, fun p hp => ?_⟩⟩
  refine ⟨_, .inl (sq_t upd_same), n, s, rfl, hb, fun H3 e3 => ⟨by simp, fun p2 hp2 => ?_⟩⟩
  exact q p2 _ (Evl.fresh_back ((e2.trans (exn hp)).trans e3) hp2) (((e2.trans (exn hp)).trans e3).trans (exn hp2)) upd_same
/-! operations -/
def opV : Op → List V
  | .go k => [.str "go", .int k]
  | .keep => [.str "keep"]
  | .take m => [.str "take", .int m]
  | .free m => [.str "free", .int m]
  | .back => [.str "back"]
def sp_row_operation (K : PySem.W.Frag) : Sp := sp2 fun x y H Q _ => ∃ (a : Addr) (b n s i : Int), x = .ref a ∧ y = .int i ∧ H a = some (.tup ((planT b n s).map V.int)) ∧ 1 ≤ n ∧ 0 ≤ i ∧
  ∀ p H', H p = none → Ex H H' → H' p = some (.tup (opV (rowOp b n i))) → Q (.ref p) H'
theorem sc_row_operation : FnScope ["part", "number", "state", "length", "turn", "which"] ["part", "number"] (defScope s_row_operation) := ⟨rfl, rfl, rfl, by decide +kernel, rfl, by decide +kernel, by decide +kernel⟩
theorem ok_row_operation (T : Txt P w K mg base) : FnOk P w K mg base (L2.CX P w) 1 T.a_row_operation T.fd_row_operation ["part", "number"] (sp_row_operation K) := by
  refine FunD.ok T.F_row_operation sc_row_operation (fun vs H Q E h => ar2 h) (fun cdv A fr s H vs Q E hr h => ⟨_, PSs.nox (pss_cons (ps_par (i := 2) (j := 3) (by rfl) sc_row_operation.nd rfl rfl (by decide) rfl rfl (pa_cons (pe_ix ix_tupT (pv 0) pe_int (fun _ _ => rfl)) (pa_cons (pe_ix ix_tupT (pv 0) pe_int (fun _ _ => rfl)) pa_nil)) (by rfl)) (pss_cons (ps_asg (pe_callB call_divmod (by rfl) T.n_divmod (by decide +kernel) (pa_cons (pv 1) (pa_cons pe_int pa_nil))) (pg_tupT (n := 2) rfl (pgs_cons (pg_name (i := 4) sc_row_operation.nd rfl (.inl rfl)) (pgs_cons (pg_name (i := 5) sc_row_operation.nd rfl (.inl rfl)) pgs_nil)))) (pss_cons (ps_if (PW.pt (pw_or (pt_cmpR op_eq (pv 4) (pe_op op_sub (pv 3) pe_int) (nomark _)) (pw_or1 (pt_cmpR op_eq (pv 5) pe_int (nomark _))))) (pss_one (ps_ret (pe_tup (pa_cons pe_str pa_nil)))) pss_nil) (pss_one (ps_ret (pe_ifExp (pt_cmpR op_eq (pv 5) pe_int (nomark _)) (pe_tup (pa_cons pe_str (pa_cons (pe_op op_sub (pe_op op_sub (pv 3) pe_int) (pv 4)) pa_nil))) (pe_tup (pa_cons pe_str (pa_cons (pv 2) pa_nil))))))))), ?_⟩)
  obtain ⟨_, _, rfl, a, b, n, s, i, rfl, rfl, ha, h1, h2, q⟩ := h
  walk_at "rd"
  refine ⟨_, ha, _, atI_0, _, ha, _, atI_1, ?_⟩
  walk_at "rd"
  refine ⟨by unfold CDiv; omega, fun p hp => ?_⟩
  have fin : ∀ (o : Op) (p2 : Addr), rowOp b n i = o → upd H p (.tup [.int (i / 3), .int (i % 3)]) p2 = none → Q (.ref p2) (upd (upd H p (.tup [.int (i / 3), .int (i % 3)])) p2 (.tup (opV o))) := fun o p2 h hp2 =>
    q p2 _ (Evl.fresh_back (exn hp) hp2) ((exn hp).trans (exn hp2)) (by rw [upd_same, h])
  refine ite2 (fun h p2 hp2 => ?_) fun h => ite2 (fun h' p2 hp2 => ?_) fun h' => ite2 (fun h2 p2 hp2 => ?_) fun h2 p2 hp2 => ?_
  · exact fin .back p2 (by unfold rowOp; rw [if_pos (.inl h)]) hp2
  · exact fin .back p2 (by unfold rowOp; rw [if_pos (.inr h')]) hp2
  · exact fin (.go _) p2 (by unfold rowOp; rw [if_neg (by omega), if_pos h2]) hp2
  · exact fin (.take _) p2 (by unfold rowOp; rw [if_neg (by omega), if_neg h2]) hp2
def sp_operation_of (K : PySem.W.Frag) : Sp := sp2 fun x y H Q _ => ∃ (a : Addr) (b n s i : Int), x = .ref a ∧ y = .int i ∧ H a = some (.tup ((planT b n s).map V.int)) ∧ PB n s ∧ 0 ≤ i ∧ i < opsN n s ∧
  ∀ p H', H p = none → Ex H H' → H' p = some (.tup (opV (opAt n s b i))) → Q (.ref p) H'
theorem sc_operation_of : FnScope ["plan", "number", "part", "left", "split", "behind", "ahead", "kept"] ["plan", "number"] (defScope s_operation_of) := ⟨rfl, rfl, rfl, by decide +kernel, rfl, by decide +kernel, by decide +kernel⟩
theorem ok_operation_of (T : Txt P w K mg base) : FnOk P w K mg base (L2.CX P w) 3 T.a_operation_of T.fd_operation_of ["plan", "number"] (sp_operation_of K) := by
  refine FunD.ok T.F_operation_of sc_operation_of (fun vs H Q E h => ar2 h) (fun cdv A fr s H vs Q E hr h => ⟨_, PSs.nox (pss_cons (ps_par (i := 2) (j := 3) (by rfl) sc_operation_of.nd rfl rfl (by decide) rfl rfl (pa_cons (pv 0) (pa_cons (pv 1) pa_nil)) (by rfl)) (pss_cons (ps_while PassesOwn.never (PW.pt (pw_and (pt_cmpR op_gt (pe_ix ix_tupT (pv 2) pe_int (fun _ _ => rfl)) pe_int (nomark _)) (pw_and1 (pt_cmpR op_gt (pe_ix ix_tupT (pv 2) pe_int (fun _ _ => rfl)) pe_int (nomark _))))) (Evl.pss_cut (ps_asg (pe_call (ok_parts_of T) hr (by rfl) T.g_parts_of T.F_parts_of.kp T.b_parts_of .nil passL (pa_cons (pv 2) pa_nil)) (pg_tupT (n := 3) rfl (pgs_cons (pg_name (i := 4) sc_operation_of.nd rfl (.inl rfl)) (pgs_cons (pg_name (i := 5) sc_operation_of.nd rfl (.inl rfl)) (pgs_cons (pg_name (i := 6) sc_operation_of.nd rfl (.inl rfl)) pgs_nil))))) (Evl.pss_cut (ps_set (i := 7) sc_operation_of.nd rfl (.inl rfl) (pe_callTy call_intB (by rfl) T.n_int (by decide +kernel) (pa_cons (pe_cmpR op_gt (pe_ix ix_tupT (pv 5) pe_int (fun _ _ => rfl)) pe_int (nomark _)) pa_nil))) (pss_cons (ps_if (pt_cmpR op_eq (pv 3) pe_int (nomark _)) (pss_one (ps_ret (pe_tup (pa_cons pe_str (pa_cons (pv 4) pa_nil))))) pss_nil) (Evl.pss_cut (ps_if (PW.pt (pw_and (pt_cmpR op_eq (pv 3) pe_int (nomark _)) (pw_and1 (pt_cmpR op_eq (pv 7) pe_int (nomark _))))) (pss_one (ps_ret (pe_tup (pa_cons pe_str pa_nil)))) pss_nil) (pss_cons (ps_aug (i := 3) sc_operation_of.nd rfl (.inl rfl) (pe_op op_add pe_int (pv 7)) ip_sub) (pss_one (ps_if (pt_cmpR op_lt (pv 3) (pe_ix ix_tupT (pv 5) pe_int (fun _ _ => rfl)) (nomark _)) (pss_one (ps_set (i := 2) sc_operation_of.nd rfl (.inl rfl) (pv 5))) (pss_one (ps_if (PW.pt (pw_and (pt_cmpR op_eq (pv 3) (pe_ix ix_tupT (pv 5) pe_int (fun _ _ => rfl)) (nomark _)) (pw_and1 (pt_cmpR op_eq (pv 7) pe_int (nomark _))))) (pss_one (ps_ret (pe_tup (pa_cons pe_str (pa_cons (pe_op op_add (pe_ix ix_tupT (pv 2) pe_int (fun _ _ => rfl)) (pv 4)) pa_nil))))) (pss_one (ps_if (pt_cmpR op_eq (pv 3) (pe_op op_add (pe_ix ix_tupT (pv 5) pe_int (fun _ _ => rfl)) (pv 7)) (nomark _)) (pss_one (ps_ret (pe_tup (pa_cons pe_str (pa_cons (pe_ix ix_tupT (pv 2) pe_int (fun _ _ => rfl)) pa_nil))))) (pss_one (ps_par (i := 2) (j := 3) (by rfl) sc_operation_of.nd rfl rfl (by decide) rfl rfl (pa_cons (pv 6) (pa_cons (pe_op op_sub (pe_op op_sub (pe_op op_sub (pv 3) (pe_ix ix_tupT (pv 5) pe_int (fun _ _ => rfl))) (pv 7)) pe_int) pa_nil)) (by rfl))))))))))))))) (pss_one (ps_ret (pe_call (ok_row_operation T) (hr.mono (by decide)) (by rfl) T.g_row_operation T.F_row_operation.kp T.b_row_operation .nil passL (pa_cons (pv 2) (pa_cons (pv 3) pa_nil))))))), ?_⟩)
  obtain ⟨_, _, rfl, a, b, n, s, i, rfl, rfl, ha, hb, i0, i1, q⟩ := h
  walk_at "rd"
  refine ⟨fun m σ H' => Ex H H' ∧ ∃ (l : Addr) (b' n' s' i' : Int) (x y z u : Option V), σ = [some (.ref a), some (.int i), some (.ref l), some (.int i'), x, y, z, u] ∧ H' l = some (.tup ((planT b' n' s').map V.int)) ∧ PB n' s' ∧ 0 ≤ i' ∧ i' < opsN n' s' ∧ opAt n' s' b' i' = opAt n s b i ∧ m = n'.toNat,
    ⟨_, .refl _, a, b, n, s, i, _, _, _, _, rfl, ha, hb, i0, i1, rfl, rfl⟩, ?_⟩
  rintro m σ H1 ⟨e1, l, b', n', s', i', x, y, z, u, rfl, hl, hb', j0, j1, eo, rfl⟩
  walk_at "rd"
  refine ⟨_, hl, _, atI_1, ?_⟩
  walk_at "rd"
  have row : (n' < 2 ∨ s' < 2) → sp_row_operation K [.ref l, .int i'] H1 Q E0 := fun h => by
    unfold sp_row_operation
    walk_at "rd"
    refine ⟨b', n', s', hl, hb'.1, j0, fun p H2 hp e2 h2 => q p H2 (Evl.fresh_back e1 hp) (e1.trans e2) ?_⟩
    rw [h2, ← eo, opAt_row h]
  refine ite2 (fun hn => ?_) fun hn => row (.inl (by omega))
  refine ⟨_, hl, _, atI_2, ?_⟩
  walk_at "rd"
  refine ite2 (fun hs => ?_) fun hs => row (.inr (by omega))
  have hn : 2 ≤ n' := by omega
  have hs : 2 ≤ s' := by omega
  obtain ⟨l1, l2, l3⟩ := loz_range hn hs
  have pr := hb'.rest hn hs
  have pa := hb'.ahead hn hs
  have ek := opsN_kp hn hs
  have eo2 := opAt_two (n := n') (s := s') (b := b') (i := i') hn hs
  refine ⟨fun σ' H'' => Ex H H'' ∧ ∃ (l : Addr) (b2 n2 s2 i2 : Int) (x y z u : Option V), σ' = [some (.ref a), some (.int i), some (.ref l), some (.int i2), x, y, z, u] ∧ H'' l = some (.tup ((planT b2 n2 s2).map V.int)) ∧ PB n2 s2 ∧ 0 ≤ i2 ∧ i2 < opsN n2 s2 ∧ opAt n2 s2 b2 i2 = opAt n s b i ∧ n2.toNat < n'.toNat,
    fun σ' H'' ⟨e, l, b2, n2, s2, i2, x, y, z, u, e1, e2, e3, e4, e5, e6, e7⟩ => ⟨_, e7, e, l, b2, n2, s2, i2, x, y, z, u, e1, e2, e3, e4, e5, e6, rfl⟩, ?_⟩
  refine Evl.q_cut (M := fun σ' H' => ∃ c d, σ' = [some (.ref a), some (.int i), some (.ref l), some (.int i'), some (.int (hiz n' s')), some (.ref c), some (.ref d), u] ∧ Ex H1 H' ∧ H' c = some (.tup ((planT (b' + hiz n' s') (n' - hiz n' s') (s' - 1)).map V.int)) ∧ H' d = some (.tup ((planT b' (hiz n' s') s').map V.int))) ?_ ?_
  · unfold sp_parts_of
    walk_at "rd"
    refine ⟨b', n', s', hl, hb', hn, hs, fun p c d H2 hp e2 h1 h2 h3 => ?_⟩
    simp only [h1]
    walk_at "rd"
    exact ⟨e2, h2, h3⟩
  rintro σ H2 ⟨c, d, rfl, e2, hc, hd⟩
  refine Evl.q_cut (M := fun σ' H' => σ' = [some (.ref a), some (.int i), some (.ref l), some (.int i'), some (.int (hiz n' s')), some (.ref c), some (.ref d), some (.int (kp n' s'))] ∧ H2 = H') ?_ ?_
  · walk_at "rd"
    refine ⟨_, hc, _, atI_1, ?_⟩
    walk_at "rd"
    unfold kp
    exact rfl
  rintro σ _ ⟨rfl, rfl⟩
  walk_at "rd"
  have hl2 := e2 _ _ hl
  have e12 := e1.trans e2
  have fin : ∀ (o : Op) (p2 : Addr), opAt n' s' b' i' = o → H2 p2 = none → Q (.ref p2) (upd H2 p2 (.tup (opV o))) := fun o p2 h hp2 =>
    q p2 _ (Evl.fresh_back e12 hp2) (e12.trans (exn hp2)) (by rw [upd_same, ← eo, h])
  refine ite2 (fun h p hp => fin (.go _) p (by rw [eo2, if_pos h]) hp) fun h0 => ?_
  rw [if_neg h0] at eo2
  refine Evl.q_cut (M := fun σ' H' => σ' = [some (.ref a), some (.int i), some (.ref l), some (.int i'), some (.int (hiz n' s')), some (.ref c), some (.ref d), some (.int (kp n' s'))] ∧ H2 = H' ∧ ¬ (i' = 1 ∧ kp n' s' = 1)) ?_ ?_
  · walk_at "rd"
    refine ite2 (fun h => ite2 (fun h' p hp => fin .keep p (by rw [eo2, if_pos ⟨h, h'⟩]) hp) fun h' => ?_) fun h => ?_
    · omega
    · omega
  rintro σ _ ⟨rfl, rfl, h1⟩
  rw [if_neg h1] at eo2
  walk_at "rd"
  simp only [hc, hl2, hd, planT]
  walk_at "rd"
  have k01 : kp n' s' = 0 ∨ kp n' s' = 1 := by unfold kp; split <;> simp
  have og := opsN_ge (n' - hiz n' s') (s' - 1) (by omega) (by omega)
  refine ite2 (fun h => ?_) fun h => ?_
  · rw [if_pos h] at eo2
    exact ⟨e12, pr, by omega, h, by rw [← eo2, eo], by omega⟩
  rw [if_neg h] at eo2
  have take : i' - (1 + kp n' s') = opsN (n' - hiz n' s') (s' - 1) + kp n' s' → ¬ (i' - (1 + kp n' s') = opsN (n' - hiz n' s') (s' - 1) ∧ kp n' s' = 1) → ∀ p, H2 p = none → Q (.ref p) (upd H2 p (.tup [.str "take", .int b'])) := fun h h' p hp =>
    fin (.take _) p (by rw [eo2, if_neg h', if_pos h]) hp
  have on : ¬ (i' - (1 + kp n' s') = opsN (n' - hiz n' s') (s' - 1) + kp n' s') → ¬ (i' - (1 + kp n' s') = opsN (n' - hiz n' s') (s' - 1) ∧ kp n' s' = 1) → Ex H H2 ∧ PB (hiz n' s') s' ∧ 0 ≤ i' - (1 + kp n' s') - opsN (n' - hiz n' s') (s' - 1) - kp n' s' - 1 ∧
      i' - (1 + kp n' s') - opsN (n' - hiz n' s') (s' - 1) - kp n' s' - 1 < opsN (hiz n' s') s' ∧ opAt (hiz n' s') s' b' (i' - (1 + kp n' s') - opsN (n' - hiz n' s') (s' - 1) - kp n' s' - 1) = opAt n s b i ∧ (hiz n' s').toNat < n'.toNat := fun h1 h2 =>
    ⟨e12, pa, by omega, by omega, by rw [← eo, eo2, if_neg h2, if_neg h1], by omega⟩
  refine ite2 (fun h1 => ite2 (fun h2 p hp => fin (.free _) p (by rw [eo2, if_pos ⟨h1, h2⟩]) hp) fun h2 => ite2 (fun h3 => take h3 (by omega)) fun h3 => on h3 (by omega)) fun h1 => ite2 (fun h3 => take h3 (by omega)) fun h3 => on h3 (by omega)
def sp_operation_count (K : PySem.W.Frag) : Sp := sp2 fun x y H Q _ => ∃ (n s : Int), x = .int n ∧ y = .int s ∧ PB n s ∧ ∀ H', Ex H H' → Q (.int (opsN n s)) H'
def sp_operation_at (K : PySem.W.Frag) : Sp := sp3 fun x y z H Q _ => ∃ (n s i : Int), x = .int n ∧ y = .int s ∧ z = .int i ∧ PB n s ∧ 0 ≤ i ∧ i < opsN n s ∧ ∀ p H', H p = none → Ex H H' → H' p = some (.tup (opV (opAt n s 0 i))) → Q (.ref p) H'
/-! ### draws -/
def Reel (H : Hp) (r : Addr) (m : Int) : Prop := ∃ a b c : Int, H r = some (.lst [.int a, .int b, .int c]) ∧ 0 ≤ a ∧ 0 ≤ b ∧ b ≤ 10 ^ 60 ∧ 0 ≤ c ∧ c ≤ m
theorem Reel.keep {H H' : Hp} {r : Addr} {m : Int} (h : Reel H r m) (k : ∀ o, H r = some o → H' r = some o) : Reel H' r m := by
  obtain ⟨a, b, c, e, q⟩ := h
  exact ⟨a, b, c, k _ e, q⟩
theorem Reel.ex {H H' : Hp} {r : Addr} {m : Int} (h : Reel H r m) (e : Ex H H') : Reel H' r m := h.keep fun o q => e r o q
theorem Reel.ne {H : Hp} {r p : Addr} {m : Int} (h : Reel H r m) (hp : H p = none) : p ≠ r := by
  obtain ⟨a, b, c, e, q⟩ := h
  exact (ne_of_none e hp).symm
theorem Reel.up {H : Hp} {r : Addr} {m m' : Int} (h : Reel H r m) (l : m ≤ m') : Reel H r m' := by
  obtain ⟨a, b, c, e, q1, q2, q3, q4, q5⟩ := h
  exact ⟨a, b, c, e, q1, q2, q3, q4, by omega⟩
theorem mo_none {H H' : Hp} {r p : Addr} {m : Int} (o : Mo r H H') (h : Reel H' r m) (hp : H' p = none) : H p = none := by
  cases q : H p with
  | none => rfl
  | some u => rw [o p u (h.ne hp) q] at hp; cases hp
def sp_L_wound (K : PySem.W.Frag) : Sp := sp2 fun x y H Q _ => ∃ (a : Addr) (ns : List Int) (k : Nat), x = .ref a ∧ y = .int k ∧ SqL K H a (ns.map V.int) ∧ ns.length ≤ 63 ∧ k ≤ 63 ∧ ∀ r H', H r = none → Ex H H' → Reel H' r 0 → Q (.ref r) H'
theorem sc_L_wound : FnScope ["_law_script", "_law_k", "_law_cell"] ["_law_script", "_law_k"] (defScope s_L_wound) := ⟨rfl, rfl, rfl, by decide +kernel, rfl, by decide +kernel, by decide +kernel⟩
theorem ok_L_wound (T : Txt P w K mg base) : FnOk P w K mg base (L2.CX P w) 1 T.a_L_wound T.fd_L_wound ["_law_script", "_law_k"] (sp_L_wound K) := by
  refine FunD.ok T.F_L_wound sc_L_wound (fun vs H Q E h => ar2 h) (fun cdv A fr s H vs Q E hr h => ⟨_, PSs.nox (pss_cons (ps_set (i := 2) sc_L_wound.nd rfl (.inl rfl) pe_int) (pss_cons (ps_if (pt_cmpR op_lt (pv 1) (pe_callB (r := rLenQ K) call_lenQ (by rfl) T.n_len (by decide +kernel) (pa_cons (pv 0) pa_nil)) (nomark _)) (pss_one (ps_set (i := 2) sc_L_wound.nd rfl (.inl rfl) (pe_ix (r := rIxL K) ix_list (pv 0) (pv 1) (fun _ _ => rfl)))) pss_nil) (pss_one (ps_ret (pe_lst (pa_cons (pe_callB (call_max2 rfl) (by rfl) T.n_max (by decide +kernel) (pa_cons pe_int (pa_cons (pe_op op_sub (pv 2) (pe_op op_powC pe_int pe_int)) pa_nil))) (pa_cons (pe_op op_add (pe_op op_add (pe_op op_mulB (pe_op op_mod (pe_callTy call_intI (by rfl) T.n_int (by decide +kernel) (pa_cons (pv 2) pa_nil)) (pe_op op_add (pe_op op_powC pe_int pe_int) pe_int)) pe_int) (pe_op op_mulB pe_int (pv 1))) pe_int) (pa_cons pe_int pa_nil)))))))), ?_⟩)
  obtain ⟨_, _, rfl, a, ns, k, rfl, rfl, hS, hl, hk, q⟩ := h
  walk_at "rd"
  refine ⟨_, .inl hS, ?_⟩
  rw [List.length_map]
  refine ite2 (fun hlt => ?_) (fun _ => ?_)
  · have hlt' : k < ns.length := by omega
    refine ⟨_, hS, .int ns[k], atI_nat (by rw [List.getElem?_map, List.getElem?_eq_getElem hlt']; rfl), ns[k], rfl, ns[k], rfl, by walk_at "ar", by walk_at "ar", fun p hp => q p _ hp (exn hp) ⟨_, _, _, upd_same, ?_, ?_, ?_, ?_, ?_⟩⟩
    · split <;> omega
    all_goals omega
  · refine ⟨by walk_at "ar", by walk_at "ar", fun p hp => q p _ hp (exn hp) ⟨_, _, _, upd_same, ?_, ?_, ?_, ?_, ?_⟩⟩
    all_goals omega
def sp_L_spin (K : PySem.W.Frag) : Sp := sp2 fun x y H Q _ => ∃ (r : Addr) (n m : Int), x = .ref r ∧ y = .int n ∧ Reel H r m ∧ m ≤ 10 ^ 60 ∧ 1 ≤ n ∧ n ≤ 10 ^ 100 ∧ ∀ z H', 0 ≤ z → z < n → Mo r H H' → Reel H' r (m + 1) → Q (.int z) H'
theorem sc_L_spin : FnScope ["_law_reel", "_law_many", "_law_drawn", "_law_mixed"] ["_law_reel", "_law_many"] (defScope s_L_spin) := ⟨rfl, rfl, rfl, by decide +kernel, rfl, by decide +kernel, by decide +kernel⟩
theorem ok_L_spin (T : Txt P w K mg base) : FnOk P w K mg base (L2.CX P w) 1 T.a_L_spin T.fd_L_spin ["_law_reel", "_law_many"] (sp_L_spin K) := by
  refine FunD.ok T.F_L_spin sc_L_spin (fun vs H Q E h => ar2 h) (fun cdv A fr s H vs Q E hr h => ⟨_, PSs.nox (pss_cons (ps_if (pt_cmpR op_gt (pe_ix ix_listT (pv 0) pe_int (fun _ _ => rfl)) pe_int (nomark _)) (pss_cons (ps_set (i := 2) sc_L_spin.nd rfl (.inl rfl) (pe_op op_mod (pe_callTy call_intI (by rfl) T.n_int (by decide +kernel) (pa_cons (pe_ix ix_listT (pv 0) pe_int (fun _ _ => rfl)) pa_nil)) (pv 1))) (pss_cons (ps_asg (pe_op op_divB (pe_ix ix_listT (pv 0) pe_int (fun _ _ => rfl)) (pv 1)) (pg_sub (pv 0) pe_int set_list)) (pss_one (ps_ret (pv 2))))) pss_nil) (pss_cons (ps_asg (pe_op op_add (pe_ix ix_listT (pv 0) pe_int (fun _ _ => rfl)) pe_int) (pg_sub (pv 0) pe_int set_list)) (pss_cons (ps_set (i := 3) sc_L_spin.nd rfl (.inl rfl) (pe_op op_mod (pe_callTy call_intI (by rfl) T.n_int (by decide +kernel) (pa_cons (pe_op op_powB (pe_op op_add (pe_ix ix_listT (pv 0) pe_int (fun _ _ => rfl)) (pe_op op_mulB pe_int (pe_ix ix_listT (pv 0) pe_int (fun _ _ => rfl)))) pe_int) pa_nil)) (pe_op op_add (pe_op op_powC pe_int pe_int) pe_int))) (pss_cons (ps_set (i := 3) sc_L_spin.nd rfl (.inl rfl) (pe_op op_mod (pe_callTy call_intI (by rfl) T.n_int (by decide +kernel) (pa_cons (pe_op op_powB (pe_op op_add (pv 3) (pe_op op_mulB pe_int (pe_ix ix_listT (pv 0) pe_int (fun _ _ => rfl)))) pe_int) pa_nil)) (pe_op op_add (pe_op op_powC pe_int pe_int) pe_int))) (pss_one (ps_ret (pe_op op_mod (pe_callTy call_intI (by rfl) T.n_int (by decide +kernel) (pa_cons (pe_op op_divB (pv 3) pe_int) pa_nil)) (pv 1)))))))), ?_⟩)
  obtain ⟨_, _, rfl, r, n, m, rfl, rfl, ⟨a, b, c, hr0, ha, hb, hb2, hc0, hcm⟩, hm, hn, hn2, q⟩ := h
  walk_at "rd"
  simp only [hr0]
  walk_at "rd"
  have hB := big_200
  refine ite2 (fun h => ?_) (fun h => ?_)
  · refine ⟨by omega, by unfold CDivB; omega, q _ _ (Int.emod_nonneg _ (by omega)) (Int.emod_lt_of_pos _ (by omega)) Mo.upd ⟨_, _, _, upd_same, Int.ediv_nonneg ha (by omega), hb, hb2, hc0, by omega⟩⟩
  · refine ⟨by walk_at "ar", by walk_at "ar", by walk_at "ar", ?_⟩
    generalize (b + 86028121 * (c + 1)) ^ 3 = z1
    refine ⟨by walk_at "ar", ?_⟩
    generalize (z1 % 1000000000000000000000000000000000000000063 + 67867967 * (c + 1)) ^ 3 = z2
    exact ⟨by walk_at "ar", by omega, q _ _ (Int.emod_nonneg _ (by omega)) (Int.emod_lt_of_pos _ (by omega)) Mo.upd ⟨_, _, _, upd_same, ha, hb, hb2, by omega, by omega⟩⟩
/-! ### operations as data -/
def opD : Op → PyData
  | .go k => .tuple [.str "go", .int k]
  | .keep => .tuple [.str "keep"]
  | .take m => .tuple [.str "take", .int m]
  | .free m => .tuple [.str "free", .int m]
  | .back => .tuple [.str "back"]
theorem opD_dp {H : Hp} {a : Addr} {o : Op} (h : H a = some (.tup (opV o))) : Dp K H (.ref a) (opD o) := by
  cases o with
  | go k => exact .tup (sq_t h) (.cons (.str _) (.cons (.int _) .nil))
  | keep => exact .tup (sq_t h) (.cons (.str _) .nil)
  | take k => exact .tup (sq_t h) (.cons (.str _) (.cons (.int _) .nil))
  | free k => exact .tup (sq_t h) (.cons (.str _) (.cons (.int _) .nil))
  | back => exact .tup (sq_t h) (.cons (.str _) .nil)
theorem opD_fine {o : Op} (n : Nat) (h1 : 0 ≤ o.num) (h2 : o.num ≤ 10 ^ 40) : fine (n + 1) (opD o) = true := by
  have hM := med_200
  have l : o.num.natAbs.log2 < 1900 := med_log (by omega) (by omega)
  cases o with
  | go k => show (PyData.strOk "go" && (decide (k.natAbs.log2 < 1900) && true)) = true; rw [decide_eq_true (show k.natAbs.log2 < 1900 from l)]; decide +kernel
  | keep => show (PyData.strOk "keep" && true) = true; decide +kernel
  | take k => show (PyData.strOk "take" && (decide (k.natAbs.log2 < 1900) && true)) = true; rw [decide_eq_true (show k.natAbs.log2 < 1900 from l)]; decide +kernel
  | free k => show (PyData.strOk "free" && (decide (k.natAbs.log2 < 1900) && true)) = true; rw [decide_eq_true (show k.natAbs.log2 < 1900 from l)]; decide +kernel
  | back => show (PyData.strOk "back" && true) = true; decide +kernel
theorem op_rp {H : Hp} {S : Addr → Prop} {a : Addr} {o : Op} (m : S a) (h : H a = some (.tup (opV o))) : Rp H S (.ref a) (opD o) := by
  cases o with
  | go k => exact .tup m h (.cons (.str _) (.cons (.int _) .nil))
  | keep => exact .tup m h (.cons (.str _) .nil)
  | take k => exact .tup m h (.cons (.str _) (.cons (.int _) .nil))
  | free k => exact .tup m h (.cons (.str _) (.cons (.int _) .nil))
  | back => exact .tup m h (.cons (.str _) .nil)
theorem rp_op {H : Hp} {S : Addr → Prop} {v : V} {o : Op} (h : Rp H S v (opD o)) : ∃ a, v = .ref a ∧ S a ∧ H a = some (.tup (opV o)) := by
  cases o with
  | go k => cases h with | tup m e r => cases r with | cons r1 r => cases r1; cases r with | cons r1 r => cases r1; cases r; exact ⟨_, rfl, m, e⟩
  | keep => cases h with | tup m e r => cases r with | cons r1 r => cases r1; cases r; exact ⟨_, rfl, m, e⟩
  | take k => cases h with | tup m e r => cases r with | cons r1 r => cases r1; cases r with | cons r1 r => cases r1; cases r; exact ⟨_, rfl, m, e⟩
  | free k => cases h with | tup m e r => cases r with | cons r1 r => cases r1; cases r with | cons r1 r => cases r1; cases r; exact ⟨_, rfl, m, e⟩
  | back => cases h with | tup m e r => cases r with | cons r1 r => cases r1; cases r; exact ⟨_, rfl, m, e⟩
/-! lists of data in the heap -/
theorem gok_no {P : Program} {w : World} {K : PySem.W.Frag} {mg : Str → Option Value} {base : Heap} {C : CXT} {k : Nat} {f : Addr} {fd : FuncData} {ps : List Str} {sp : Sp} (h : ∀ vs H Q E, ¬ sp vs H Q E) : GOk P w K mg base C k f fd ps sp :=
  ⟨fun vs H Q E q => absurd q (h vs H Q E), fun A fr s H args us vs Q E _ _ _ _ _ q => absurd q (h vs H Q E)⟩
theorem fok_no {P : Program} {w : World} {K : PySem.W.Frag} {mg : Str → Option Value} {base : Heap} {C : CXT} {k : Nat} {f : Addr} {fd : FuncData} {ps : List Str} {sp : Sp} (h : ∀ vs H Q E, ¬ sp vs H Q E) : FnOk P w K mg base C k f fd ps sp :=
  ⟨fun vs H Q E q => absurd q (h vs H Q E), fun A fr s H args us vs Q E _ _ _ _ q => absurd q (h vs H Q E)⟩
def spNo : Sp := fun _ _ _ _ => False
theorem no_spNo : ∀ vs H Q E, ¬ spNo vs H Q E := fun _ _ _ _ h => h
theorem rp_cat {H : Hp} {S : Addr → Prop} {xs ys : List V} {ds es : List PyData} {p : Addr} (ha : RpA H S xs ds) (hb : RpA H S ys es) (hp : H p = none) (sp : S p) : Rp (upd H p (.lst (xs ++ ys))) S (.ref p) (.list (ds ++ es)) :=
  .lst sp upd_same ((ha.app hb).ex (exn hp))
theorem rp_list {H : Hp} {S : Addr → Prop} {v : V} {ds : List PyData} (h : Rp H S v (.list ds)) : ∃ a xs, v = .ref a ∧ S a ∧ H a = some (.lst xs) ∧ RpA H S xs ds ∧ xs.length = ds.length := by
  cases h with
  | lst m e r => exact ⟨_, _, rfl, m, e, r, r.len⟩
theorem fineAll_app {n : Nat} : ∀ {xs ys : List PyData}, fineAll n (xs ++ ys) = (fineAll n xs && fineAll n ys)
  | [], ys => rfl
  | x :: xs, ys => by
    show (fine n x && fineAll n (xs ++ ys)) = ((fine n x && fineAll n xs) && fineAll n ys)
    rw [fineAll_app, Bool.and_assoc]
theorem szAll_app : ∀ {xs ys : List PyData}, szAll (xs ++ ys) = szAll xs + szAll ys
  | [], ys => by simp [szAll]
  | x :: xs, ys => by
    show sz x + 2 + szAll (xs ++ ys) = (sz x + 2 + szAll xs) + szAll ys
    rw [szAll_app]
    omega
theorem fineAll_all {n : Nat} : ∀ {xs : List PyData}, (∀ x ∈ xs, fine n x = true) → fineAll n xs = true
  | [], _ => rfl
  | x :: xs, h => by
    show (fine n x && fineAll n xs) = true
    rw [h x (List.mem_cons_self ..), fineAll_all fun y hy => h y (List.mem_cons_of_mem _ hy)]
    rfl
theorem szAll_all {m : Nat} : ∀ {xs : List PyData}, (∀ x ∈ xs, sz x ≤ m) → szAll xs ≤ (m + 2) * xs.length
  | [], _ => Nat.le_refl _
  | x :: xs, h => by
    have a := h x (List.mem_cons_self ..)
    have b := szAll_all fun y hy => h y (List.mem_cons_of_mem _ hy)
    show sz x + 2 + szAll xs ≤ (m + 2) * (xs.length + 1)
    rw [Nat.mul_add, Nat.mul_one]
    omega
theorem opD_sz {o : Op} : sz (opD o) ≤ 3000 := by
  cases o <;> exact Nat.le_of_ble_eq_true rfl
theorem ops_fine {os : List Op} (h : ∀ o ∈ os, 0 ≤ o.num ∧ o.num ≤ 10 ^ 40) (hl : os.length ≤ 5000) : fine 20 (.list (os.map opD)) = true ∧ sz (.list (os.map opD)) ≤ 16000000 := by
  refine ⟨fineAll_all fun x hx => ?_, ?_⟩
  · obtain ⟨o, ho, rfl⟩ := List.mem_map.mp hx
    exact opD_fine 18 (h o ho).1 (h o ho).2
  · have := szAll_all (m := 3000) (xs := os.map opD) fun x hx => by
      obtain ⟨o, ho, rfl⟩ := List.mem_map.mp hx
      exact opD_sz
    rw [List.length_map] at this
    show szAll (os.map opD) + 3 ≤ _
    omega
/-! ### what is at hand and kept -/
def trF (t : TSt) (KL : Addr) : List (Str × V) := [("own_length", .int t.n), ("own_slots", .int t.s), ("own_hand", .int t.hand), ("own_kept", .ref KL), ("own_steps", .int t.steps), ("own_backs", .int t.backs)]
def Tr (K : PySem.W.Frag) (H : Hp) (T KL : Addr) (t : TSt) : Prop := (∃ dT, H T = some (.ins (He.ga K "Trace") dT (trF t KL))) ∧ H KL = some (.lst (t.kept.map V.int)) ∧ t.kept.length ≤ 1000
theorem inV_ints {h : Int} {ns : List Int} : inV (.int h) (ns.map V.int) = decide (h ∈ ns) := by
  induction ns with
  | nil => simp [inV]
  | cons n ns ih =>
    have e : eqV (.int n) (.int h) = decide (n = h) := rfl
    show (eqV (.int n) (.int h) || inV (.int h) (ns.map V.int)) = _
    rw [ih, e]
    by_cases q : n = h
    · subst q; simp
    · have q2 : ¬ h = n := fun z => q z.symm
      simp [q, q2]
theorem flat_ints {ns : List Int} : (ns.map V.int).all flatV = true := by
  induction ns with
  | nil => rfl
  | cons n ns ih => simp only [List.map_cons, List.all_cons, ih, Bool.and_true]; rfl
def sp_Trace___init__ (K : PySem.W.Frag) : Sp := sp3 fun x y z H Q _ => ∃ (T dT : Addr) (n s : Int), x = .ref T ∧ y = .int n ∧ z = .int s ∧ H T = some (.ins (He.ga K "Trace") dT []) ∧
  ∀ H' KL, But (· = T) H H' → H KL = none → Tr K H' T KL ⟨n, s, 0, [0], 0, 0⟩ → Q .non H'
theorem sc_Trace___init__ : FnScope ["self", "length", "slots"] ["self", "length", "slots"] (defScope s_Trace___init__) := ⟨rfl, rfl, rfl, by decide +kernel, rfl, by decide +kernel, by decide +kernel⟩
theorem ok_Trace___init__ (T : Txt P w K mg base) : FnOk P w K mg base (L2.CX P w) 1 T.a_Trace___init__ T.fd_Trace___init__ ["self", "length", "slots"] (sp_Trace___init__ K) := by
  refine FunD.ok T.F_Trace___init__ sc_Trace___init__ (fun vs H Q E h => ar3 h) (fun cdv A fr s H vs Q E hr h => ⟨_, PSs.nox (pss_cons (ps_fld (pv 0) (pv 1) rfl) (pss_cons (ps_fld (pv 0) (pv 2) rfl) (pss_cons (ps_fld (pv 0) pe_int rfl) (pss_cons (ps_fld (pv 0) (pe_lst (pa_cons pe_int pa_nil)) rfl) (pss_cons (ps_fld (pv 0) pe_int rfl) (pss_one (ps_fld (pv 0) pe_int rfl))))))), ?_⟩)
  obtain ⟨_, _, _, rfl, T0, dT, n, s, rfl, rfl, rfl, hT, q⟩ := h
  walk_at "rd"
  refine ⟨_, _, _, hT, T.c_Trace, T.n_Trace_own_length, (show 0 < 1000 by decide), T.c_Trace, T.n_Trace_own_slots, (show 1 < 1000 by decide), T.c_Trace, T.n_Trace_own_hand, (show 2 < 1000 by decide), fun p hp =>
    ⟨_, _, _, exn hp _ _ upd_same, T.c_Trace, T.n_Trace_own_kept, (show 3 < 1000 by decide), T.c_Trace, T.n_Trace_own_steps, (show 4 < 1000 by decide), T.c_Trace, T.n_Trace_own_backs, (show 5 < 1000 by decide), ?_⟩⟩
  have np : p ≠ T0 := fun z => by rw [z, upd_same] at hp; cases hp
  have bu : ∀ {H : Hp} {o : HO}, But (· = T0) H (upd H T0 o) := But.upd rfl
  have hp0 : H p = none := by rw [upd_ne np, upd_ne np, upd_ne np] at hp; exact hp
  refine q _ p ((((((bu.trans bu).trans bu).trans (But.ex (exn hp))).trans bu).trans bu).trans bu) hp0 ⟨⟨dT, upd_same⟩, ?_, by show 1 ≤ 1000; decide⟩
  rw [upd_ne np, upd_ne np, upd_ne np, upd_same]
  rfl
def sp_Trace_can_do (K : PySem.W.Frag) : Sp := sp2 fun x y H Q _ => ∃ (T KL a : Addr) (t : TSt) (o : Op), x = .ref T ∧ y = .ref a ∧ Tr K H T KL t ∧ H a = some (.tup (opV o)) ∧ Q (.bl (t.can o)) H
theorem sc_Trace_can_do : FnScope ["self", "operation"] ["self", "operation"] (defScope s_Trace_can_do) := ⟨rfl, rfl, rfl, by decide +kernel, rfl, by decide +kernel, by decide +kernel⟩
theorem ok_Trace_can_do (T : Txt P w K mg base) : FnOk P w K mg base (L2.CX P w) 1 T.a_Trace_can_do T.fd_Trace_can_do ["self", "operation"] (sp_Trace_can_do K) := by
  refine FunD.ok T.F_Trace_can_do sc_Trace_can_do (fun vs H Q E h => ar2 h) (fun cdv A fr s H vs Q E hr h => ⟨_, PSs.nox (pss_one (ps_match (pe_ix ix_tupT (pv 1) pe_int (fun _ _ => rfl)) (pc_word (pss_one (ps_ret (pe_cmpR op_lt (pe_op op_add (pe_fld (pv 0) rfl) (pe_ix ix_tupT (pv 1) pe_int (fun _ _ => rfl))) (pe_fld (pv 0) rfl) (nomark _)))) (pc_word (pss_one (ps_ret (pe_and (pe_cmpR (r := rIn K true) op_notIn_seq (pe_fld (pv 0) rfl) (pe_fld (pv 0) rfl) (by rfl)) (pe_one (pe_cmpR op_lt (pe_callB (r := rLenQ K) call_lenQ (by rfl) T.n_len (by decide +kernel) (pa_cons (pe_fld (pv 0) rfl) pa_nil)) (pe_fld (pv 0) rfl) (nomark _)))))) (pc_word (pss_one (ps_ret (pe_and (pe_cmpR op_lt (pe_fld (pv 0) rfl) (pe_fld (pv 0) rfl) (nomark _)) (pe_one (pe_cmpR op_eq (pe_fld (pv 0) rfl) (pe_op op_sub (pe_op op_sub (pe_fld (pv 0) rfl) pe_int) (pe_fld (pv 0) rfl)) (nomark _)))))) (pc_any (pss_one (ps_ret (pe_cmpR (r := rIn K false) op_in_seq (pe_ix ix_tupT (pv 1) pe_int (fun _ _ => rfl)) (pe_fld (pv 0) rfl) (by rfl)))))))))), ?_⟩)
  obtain ⟨_, _, rfl, T0, KL, a, t, o, rfl, rfl, ⟨⟨dT, hT⟩, hK, hl⟩, ha, q⟩ := h
  walk_at "rd"
  cases o with
  | go k =>
    refine ⟨_, ha, _, atI_0, _, rfl, iteY rfl ⟨_, _, _, hT, T.c_Trace, T.n_Trace_own_hand, _, rfl, _, ha, _, atI_1, _, rfl, _, rfl, _, _, _, hT, T.c_Trace, T.n_Trace_own_length, _, rfl, _, rfl, q⟩⟩
  | keep =>
    refine ⟨_, ha, _, atI_0, _, rfl, iteNo (by decide +kernel) (iteY rfl ⟨_, _, _, hT, T.c_Trace, T.n_Trace_own_hand, _, rfl, _, _, _, hT, T.c_Trace, T.n_Trace_own_kept, _, rfl, _, _, rfl, .inl (sq_l hK), rfl, flat_ints, ?_⟩)⟩
    have e : (!inV (.int t.hand) (t.kept.map V.int)) = decide (t.hand ∉ t.kept) := by rw [inV_ints]; simp
    refine ⟨decide (t.hand ∉ t.kept), by rw [← e]; rfl, ?_⟩
    by_cases hm : t.hand ∉ t.kept
    · have e2 : t.can .keep = decide (((t.kept.map V.int).length : Int) < t.s) := by
        unfold TSt.can
        rw [decide_eq_true hm, List.length_map]
        rfl
      rw [e2] at q
      rw [decide_eq_true hm]
      exact iteT ⟨_, _, _, hT, T.c_Trace, T.n_Trace_own_kept, _, rfl, _, rfl, _, .inl (sq_l hK), _, _, _, hT, T.c_Trace, T.n_Trace_own_slots, _, rfl, _, rfl, q⟩
    · have e2 : t.can .keep = false := by
        unfold TSt.can
        rw [decide_eq_false hm]
        rfl
      rw [e2] at q
      rw [decide_eq_false hm]
      exact iteF q
  | back =>
    refine ⟨_, ha, _, atI_0, _, rfl, iteNo (by decide +kernel) (iteNo (by decide +kernel) (iteY rfl ⟨_, _, _, hT, T.c_Trace, T.n_Trace_own_backs, _, rfl, _, _, _, hT, T.c_Trace, T.n_Trace_own_length, _, rfl, _, rfl, _, rfl, ?_⟩))⟩
    refine ite2 (fun h => ⟨_, _, _, hT, T.c_Trace, T.n_Trace_own_hand, _, rfl, _, _, _, hT, T.c_Trace, T.n_Trace_own_length, _, rfl, _, rfl, _, _, _, hT, T.c_Trace, T.n_Trace_own_backs, _, rfl, _, rfl, rfl, ?_⟩) fun h => ?_
    · have e2 : t.can .back = decide (V.int t.hand = V.int (t.n - 1 - t.backs)) := by
        unfold TSt.can
        rw [decide_eq_true h, Bool.true_and]
        exact decide_eq_decide.mpr ⟨fun z => by rw [z], fun z => V.int.inj z⟩
      rw [e2] at q
      exact q
    · have e2 : t.can .back = false := by
        unfold TSt.can
        rw [decide_eq_false h]
        rfl
      rw [e2] at q
      exact q
  | take m =>
    refine ⟨_, ha, _, atI_0, _, rfl, iteNo (by decide +kernel) (iteNo (by decide +kernel) (iteNo (by decide +kernel) ⟨_, ha, _, atI_1, _, _, _, hT, T.c_Trace, T.n_Trace_own_kept, _, rfl, _, _, rfl, .inl (sq_l hK), rfl, flat_ints, ?_⟩))⟩
    rw [if_neg (by decide), inV_ints]
    exact q
  | free m =>
    refine ⟨_, ha, _, atI_0, _, rfl, iteNo (by decide +kernel) (iteNo (by decide +kernel) (iteNo (by decide +kernel) ⟨_, ha, _, atI_1, _, _, _, hT, T.c_Trace, T.n_Trace_own_kept, _, rfl, _, _, rfl, .inl (sq_l hK), rfl, flat_ints, ?_⟩))⟩
    rw [if_neg (by decide), inV_ints]
    exact q
def sp_Trace_do (K : PySem.W.Frag) : Sp := sp2 fun x y H Q _ => ∃ (T KL a : Addr) (t : TSt) (o : Op), x = .ref T ∧ y = .ref a ∧ Tr K H T KL t ∧ t.kept.length ≤ 999 ∧ H a = some (.tup (opV o)) ∧ t.can o = true ∧ ∀ H', But (fun b => b = T ∨ b = KL) H H' → Tr K H' T KL (t.did o) → Q .non H'
theorem sc_Trace_do : FnScope ["self", "operation"] ["self", "operation"] (defScope s_Trace_do) := ⟨rfl, rfl, rfl, by decide +kernel, rfl, by decide +kernel, by decide +kernel⟩
theorem ok_Trace_do (T : Txt P w K mg base) : FnOk P w K mg base (L2.CX P w) 1 T.a_Trace_do T.fd_Trace_do ["self", "operation"] (sp_Trace_do K) := by
  refine FunD.ok T.F_Trace_do sc_Trace_do (fun vs H Q E h => ar2 h) (fun cdv A fr s H vs Q E hr h => ⟨_, PSs.nox (pss_one (ps_match (pe_ix ix_tupT (pv 1) pe_int (fun _ _ => rfl)) (pc_word (pss_cons (ps_fldaug (pv 0) (pe_ix ix_tupT (pv 1) pe_int (fun _ _ => rfl)) in_add) (pss_one (ps_fldaug (pv 0) (pe_ix ix_tupT (pv 1) pe_int (fun _ _ => rfl)) in_add))) (pc_word (pss_one (ps_expr (pe_bm PySem.F.plainAttrs_list PySem.F.slot_list_append PySem.F.type_list_append mt_append (pe_fld (pv 0) rfl) (pa_cons (pe_fld (pv 0) rfl) pa_nil)))) (pc_word (pss_one (ps_fldaug (pv 0) pe_int in_add)) (pc_word (pss_one (ps_fld (pv 0) (pe_ix ix_tupT (pv 1) pe_int (fun _ _ => rfl)) rfl)) (pc_any (pss_one (ps_expr (pe_remX rfl takes0 (pe_fld (pv 0) rfl) (pe_ix ix_tupT (pv 1) pe_int (fun _ _ => rfl)))))))))))), ?_⟩)
  obtain ⟨_, _, rfl, T0, KL, a, t, o, rfl, rfl, ⟨⟨dT, hT⟩, hK, hl⟩, hl2, ha, hc, q⟩ := h
  walk_at "rd"
  have nTK : KL ≠ T0 := fun z => by rw [z, hT] at hK; cases hK
  have nA : ∀ (u : HO) {xs : List V}, H a = some (.tup xs) → upd H T0 u a = some (.tup xs) := fun u xs h => by rw [upd_ne (fun z => by rw [z, hT] at h; cases h)]; exact h
  cases o with
  | go k =>
    refine ⟨_, ha, _, atI_0, _, rfl, iteY rfl ⟨_, _, _, hT, T.c_Trace, T.n_Trace_own_hand, _, rfl, _, ha, _, atI_1, _, rfl, _, rfl, _, _, hT, (show 6 < 1000 by decide), T.c_Trace, T.n_Trace_own_steps, _, rfl, _, nA _ ha, _, atI_1, _, rfl, _, rfl, (show 6 < 1000 by decide), ?_⟩⟩
    exact q _ ((But.upd (.inl rfl)).trans (But.upd (.inl rfl))) ⟨⟨dT, upd_same⟩, by rw [upd_ne nTK, upd_ne nTK]; exact hK, hl⟩
  | keep =>
    refine ⟨_, ha, _, atI_0, _, rfl, iteNo (by decide +kernel) (iteY rfl ⟨_, _, _, hT, T.c_Trace, T.n_Trace_own_kept, _, rfl, .inl ⟨rfl, _, sq_l hK⟩, _, _, _, hT, T.c_Trace, T.n_Trace_own_hand, _, rfl, _, rfl, _, hK, ?_, ?_⟩)⟩
    · rw [List.length_map]; omega
    · exact q _ (But.upd (.inr rfl)) ⟨⟨dT, by rw [upd_ne (Ne.symm nTK)]; exact hT⟩, by rw [upd_same]; show _ = some (HO.lst ((t.kept ++ [t.hand]).map V.int)); rw [List.map_append]; rfl, by show (t.kept ++ [t.hand]).length ≤ 1000; rw [List.length_append]; show t.kept.length + 1 ≤ 1000; omega⟩
  | back =>
    refine ⟨_, ha, _, atI_0, _, rfl, iteNo (by decide +kernel) (iteNo (by decide +kernel) (iteY rfl ⟨_, _, _, hT, T.c_Trace, T.n_Trace_own_backs, _, rfl, _, rfl, _, _, hT, (show 6 < 1000 by decide), ?_⟩))⟩
    exact q _ (But.upd (.inl rfl)) ⟨⟨dT, upd_same⟩, by rw [upd_ne nTK]; exact hK, hl⟩
  | take m =>
    refine ⟨_, ha, _, atI_0, _, rfl, iteNo (by decide +kernel) (iteNo (by decide +kernel) (iteNo (by decide +kernel) (iteY rfl ⟨_, ha, _, atI_1, _, _, _, hT, T.c_Trace, T.n_Trace_own_hand, (show 6 < 1000 by decide), ?_⟩)))⟩
    exact q _ (But.upd (.inl rfl)) ⟨⟨dT, upd_same⟩, by rw [upd_ne nTK]; exact hK, hl⟩
  | free m =>
    have hm : m ∈ t.kept := of_decide_eq_true hc
    refine ⟨_, ha, _, atI_0, _, rfl, iteNo (by decide +kernel) (iteNo (by decide +kernel) (iteNo (by decide +kernel) (iteNo (by decide +kernel) ⟨_, _, _, hT, T.c_Trace, T.n_Trace_own_kept, _, rfl, .inl ⟨rfl, _, sq_l hK⟩, _, ha, _, atI_1, _, rfl, _, _, rfl, hK, fun _ => ?_, fun h => absurd hm h⟩)))⟩
    exact q _ (But.upd (.inr rfl)) ⟨⟨dT, by rw [upd_ne (Ne.symm nTK)]; exact hT⟩, by rw [upd_same]; rfl, Nat.le_trans (List.length_erase_le ..) hl⟩
theorem nsx {a b : Str} (h : a ≠ b) : ¬ V.str a = V.str b := fun z => h (V.str.inj z)
theorem ops_keep {H H' : Hp} (k : ∀ a xs, H a = some (.tup xs) → H' a = some (.tup xs)) : ∀ {os : List Op} {ls : List V}, RpA H (fun _ => True) ls (os.map opD) → RpA H' (fun _ => True) ls (os.map opD)
  | [], _, .nil => .nil
  | o :: os, _, .cons h r => by
    obtain ⟨a, rfl, _, ha⟩ := rp_op h
    exact .cons (op_rp trivial (k _ _ ha)) (ops_keep k r)
theorem run_kept : ∀ (os : List Op) (t : TSt), (t.run os).kept.length ≤ t.kept.length + os.length
  | [], t => Nat.le_refl _
  | o :: os, t => by
    have h := run_kept os (t.did o)
    have h2 : (t.did o).kept.length ≤ t.kept.length + 1 := by
      cases o with
      | keep => show (t.kept ++ [t.hand]).length ≤ _; rw [List.length_append]; exact Nat.le_refl _
      | free m => show (t.kept.erase m).length ≤ _; have := List.length_erase_le (a := m) (l := t.kept); omega
      | _ => exact Nat.le_succ _
    show ((t.did o).run os).kept.length ≤ t.kept.length + (os.length + 1)
    omega
def t0S (n s : Int) : TSt := ⟨n, s, 0, [0], 0, 0⟩
def opOk : Op → Prop
  | .go k => 1 ≤ k ∧ k ≤ 10 ^ 30
  | .take m => 0 ≤ m ∧ m ≤ 10 ^ 30
  | .free m => 0 ≤ m ∧ m ≤ 10 ^ 30
  | _ => True
theorem opOk_num {o : Op} (h : opOk o) : 0 ≤ o.num ∧ o.num ≤ 10 ^ 30 := by
  cases o with
  | go k => obtain ⟨h1, h2⟩ := h; show 0 ≤ k ∧ k ≤ 10 ^ 30; omega
  | take k => exact h
  | free k => exact h
  | keep => exact ⟨Int.le_refl _, by decide⟩
  | back => exact ⟨Int.le_refl _, by decide⟩
theorem ns {a b : Str} (h : a ≠ b) : ¬ V.str a = V.str b := fun z => h (V.str.inj z)
theorem range_filter_map (p : Int → Bool) : ∀ l : List Int, ((List.range l.length).filter fun i => p (l.getD i 0)).map (fun i => l.getD i 0) = l.filter p
  | [] => rfl
  | a :: l => by
    have ih := range_filter_map p l
    rw [List.length_cons, List.range_succ_eq_map, List.filter_cons, List.filter_map, List.filter_cons]
    have e1 : ((List.range l.length).filter ((fun i => p ((a :: l).getD i 0)) ∘ Nat.succ)) = (List.range l.length).filter fun i => p (l.getD i 0) := rfl
    have e2 : ((((List.range l.length).filter fun i => p (l.getD i 0)).map Nat.succ).map fun i => (a :: l).getD i 0) = ((List.range l.length).filter fun i => p (l.getD i 0)).map fun i => l.getD i 0 := by
      rw [List.map_map]; rfl
    rw [e1]
    by_cases h : p a = true
    · rw [if_pos h, if_pos (show p ((a :: l).getD 0 0) = true from h), List.map_cons, e2, ih]; rfl
    · rw [if_neg h, if_neg (show ¬ p ((a :: l).getD 0 0) = true from h), e2, ih]
structure Gd (t : TSt) : Prop where
  n1 : 1 ≤ t.n
  n2 : t.n ≤ 10 ^ 30
  s1 : 1 ≤ t.s
  s2 : t.s ≤ 100
  h1 : 0 ≤ t.hand
  h2 : t.hand < t.n
  k : ∀ k ∈ t.kept, 0 ≤ k ∧ k < t.n
  nd : t.kept.Nodup
  b1 : 0 ≤ t.backs
  b2 : t.backs ≤ t.n
  st : 0 ≤ t.steps
theorem Gd.did {t : TSt} {o : Op} (h : Gd t) (c : t.can o = true) (ok : opOk o) : Gd (t.did o) := by
  cases o with
  | go k =>
    have c' : t.hand + k < t.n := of_decide_eq_true c
    have := ok.1
    exact ⟨h.n1, h.n2, h.s1, h.s2, by show 0 ≤ t.hand + k; have := h.h1; omega, c', h.k, h.nd, h.b1, h.b2, by show 0 ≤ t.steps + k; have := h.st; omega⟩
  | keep =>
    obtain ⟨c1, c2⟩ := Bool.and_eq_true_iff.mp c
    have c1 := of_decide_eq_true c1
    refine ⟨h.n1, h.n2, h.s1, h.s2, h.h1, h.h2, fun k hk => ?_, ?_, h.b1, h.b2, h.st⟩
    · rcases List.mem_append.mp hk with hk | hk
      · exact h.k k hk
      · rw [List.mem_singleton.mp hk]
        exact ⟨h.h1, h.h2⟩
    · show (t.kept ++ [t.hand]).Nodup
      rw [List.nodup_append]
      exact ⟨h.nd, List.nodup_cons.mpr ⟨List.not_mem_nil, List.nodup_nil⟩, fun a ha b hb e => c1 (by rw [List.mem_singleton] at hb; rw [← hb, ← e]; exact ha)⟩
  | back =>
    obtain ⟨c1, c2⟩ := Bool.and_eq_true_iff.mp c
    have c1 := of_decide_eq_true c1
    exact ⟨h.n1, h.n2, h.s1, h.s2, h.h1, h.h2, h.k, h.nd, by show 0 ≤ t.backs + 1; have := h.b1; omega, by show t.backs + 1 ≤ t.n; omega, h.st⟩
  | take m =>
    have c' := h.k m (of_decide_eq_true c)
    exact ⟨h.n1, h.n2, h.s1, h.s2, c'.1, c'.2, h.k, h.nd, h.b1, h.b2, h.st⟩
  | free m => exact ⟨h.n1, h.n2, h.s1, h.s2, h.h1, h.h2, fun k hk => h.k k (List.mem_of_mem_erase hk), h.nd.erase _, h.b1, h.b2, h.st⟩
theorem gd_run : ∀ {os : List Op} {t : TSt}, Gd t → t.ok os → (∀ o ∈ os, opOk o) → Gd (t.run os)
  | [], t, g, _, _ => g
  | o :: os, t, g, ok, nm => gd_run (os := os) (t := t.did o) (g.did ok.1 (nm o (List.mem_cons_self ..))) ok.2 fun o' h => nm o' (List.mem_cons_of_mem _ h)
theorem gd_0 {n s : Int} (n1 : 1 ≤ n) (n2 : n ≤ 10 ^ 30) (s1 : 1 ≤ s) (s2 : s ≤ 100) : Gd (t0S n s) :=
  ⟨n1, n2, s1, s2, Int.le_refl _, by show (0 : Int) < n; omega, fun k hk => by rw [List.mem_singleton.mp hk]; exact ⟨Int.le_refl _, by show (0 : Int) < n; omega⟩, List.nodup_cons.mpr ⟨List.not_mem_nil, List.nodup_nil⟩, Int.le_refl _, by show (0 : Int) ≤ n; omega, Int.le_refl _⟩
/-! ### operations, judged -/
def words : List (Str × V) := [("go", .int 1), ("keep", .non), ("take", .int 0), ("free", .int 0), ("back", .non)]
def isNum (lo : Int) : List PyData → Bool
  | [.int n] => decide (lo ≤ n ∧ n ≤ 1000000000000000000000000000000)
  | _ => false
def dInt : PyData → Option Int
  | .int n => some n
  | _ => none
def isOpR (z : Str) (r : List PyData) : Bool := match words.lookup z with
  | some .non => decide (r.length = 0)
  | some (.int lo) => isNum lo r
  | _ => false
def isOpD : List PyData → Bool
  | .str z :: r => isOpR z r
  | _ => false
theorem words_vals {z : Str} {v : V} (h : words.lookup z = some v) : v = .non ∨ v = .int 1 ∨ v = .int 0 := by
  have m : ∀ {l : List (Str × V)}, l.lookup z = some v → v ∈ l.map (·.2) := by
    intro l
    induction l with
    | nil => intro h; cases h
    | cons q l ih =>
      intro h
      rw [List.lookup_cons] at h
      by_cases e : (z == q.1) = true
      · rw [e] at h
        rw [← Option.some.inj h]
        exact List.mem_cons_self ..
      · rw [Bool.not_eq_true] at e
        rw [e] at h
        exact List.mem_cons_of_mem _ (ih h)
  have := m h
  simp only [words, List.map_cons, List.map_nil, List.mem_cons, List.not_mem_nil, or_false] at this
  rcases this with h | h | h | h | h <;> simp [h]
theorem eqv_nil {ds : List PyData} : PyData.eqv (.tuple ds) (.tuple []) = decide (ds = []) := by cases ds <;> rfl
theorem whole_dp {K : PySem.W.Frag} {H : Hp} {v : V} {d : PyData} (h : Dp K H v d) : IntOr K H v (dInt d) := by
  have ty := dp_ty h
  cases d with
  | int n => cases h; rfl
  | bool b => exact ⟨"bool", true, true, ty, by decide +kernel, by decide +kernel, rfl⟩
  | none => exact ⟨"NoneType", false, false, ty, by decide +kernel, by decide +kernel, rfl⟩
  | str x => exact ⟨"str", false, false, ty, by decide +kernel, by decide +kernel, rfl⟩
  | list x => exact ⟨"list", false, false, ty, by decide +kernel, by decide +kernel, rfl⟩
  | tuple x => exact ⟨"tuple", false, false, ty, by decide +kernel, by decide +kernel, rfl⟩
  | _ => cases h
def sp_is_operation (K : PySem.W.Frag) : Sp := sp1 fun v H Q _ => (∃ t, TyX K H v (.type t) ∧ kitB t "tuple" = some false ∧ Q (.bl false) H) ∨
  (∃ a xs ds, v = .ref a ∧ H a = some (.tup xs) ∧ DpAll K H xs ds ∧ fine 20 (.tuple ds) = true ∧ ∀ H', Ex H H' → Q (.bl (isOpD ds)) H')
theorem sc_is_operation : FnScope ["value"] ["value"] (defScope s_is_operation) := ⟨rfl, rfl, rfl, by decide +kernel, rfl, by decide +kernel, by decide +kernel⟩
theorem ok_is_operation (T : Txt P w K mg base) : FnOk P w K mg base (L2.CX P w) 3 T.a_is_operation T.fd_is_operation ["value"] (sp_is_operation K) := by
  refine FunD.ok T.F_is_operation sc_is_operation (fun vs H Q E h => ar1 h) (fun cdv A fr s H vs Q E hr h => ⟨_, PSs.nox (Evl.pss_cut (ps_if (PW.pt (pw_or (pt_not (pt_val (pe_callB (r := rIsi K) call_isi (by rfl) T.n_isinstance (by decide +kernel) (pa_cons (pv 0) (pa_cons (pe_bltn (v := .ty "tuple") (by rfl) T.n_tuple (by decide +kernel) rfl) pa_nil))))) (pw_or (pt_cmpR (r := rEqF K) (op_eqF hr) (pv 0) (pe_tup pa_nil) (nomark _)) (pw_or (pt_not (pt_val (pe_callB (r := rIsi K) call_isi (by rfl) T.n_isinstance (by decide +kernel) (pa_cons (pe_ix ix_tupT (pv 0) pe_int (fun _ _ => rfl)) (pa_cons (pe_bltn (v := .ty "str") (by rfl) T.n_str (by decide +kernel) rfl) pa_nil))))) (pw_or1 (pt_cmpR (op_notIn_wd T.wd_WORDS) (pe_ix ix_tupT (pv 0) pe_int (fun _ _ => rfl)) (pe_glob (v := .ref (He.ga K "WORDS")) (by rfl) T.g_WORDS rfl) (by rfl))))))) (pss_one (ps_ret pe_bl)) pss_nil) (Evl.pss_cut (ps_if (pt_cmpR op_isN (pe_ix (ix_wd T.wd_WORDS) (pe_glob (v := .ref (He.ga K "WORDS")) (by rfl) T.g_WORDS rfl) (pe_ix ix_tupT (pv 0) pe_int (fun _ _ => rfl)) (fun _ _ => rfl)) pe_non (nomark _)) (pss_one (ps_ret (pe_cmpR op_eq (pe_callB (r := rLenQ K) call_lenQ (by rfl) T.n_len (by decide +kernel) (pa_cons (pv 0) pa_nil)) pe_int (nomark _)))) pss_nil) (pss_one (ps_ret (pe_and (pe_cmpR op_eq (pe_callB (r := rLenQ K) call_lenQ (by rfl) T.n_len (by decide +kernel) (pa_cons (pv 0) pa_nil)) pe_int (nomark _)) (pe_one (pe_call (ok_is_whole T) hr (by rfl) T.g_is_whole T.F_is_whole.kp T.b_is_whole .nil passL (pa_cons (pe_ix ix_tupT (pv 0) pe_int (fun _ _ => rfl)) (pa_cons (pe_ix (ix_wd T.wd_WORDS) (pe_glob (v := .ref (He.ga K "WORDS")) (by rfl) T.g_WORDS rfl) (pe_ix ix_tupT (pv 0) pe_int (fun _ _ => rfl)) (fun _ _ => rfl)) (pa_cons (pe_glob (v := .int 1000000000000000000000000000000) (by rfl) T.c_MOST_LENGTH ⟨_, rfl⟩) pa_nil)))))))))), ?_⟩)
  obtain ⟨v, rfl, h⟩ := h
  rcases h with ⟨t, ty, kt, q⟩ | ⟨a, xs, ds, rfl, ha, hd, hf, q⟩
  · refine Evl.q_cut (M := fun σ' H' => False) ?_ (fun _ _ h => h.elim)
    walk_at "rd"
    exact ⟨v, .ty "tuple", .type t, .type "tuple", false, rfl, .ty _, ty, kit_ty kt, false, rfl, iteY rfl q⟩
  have hl := dpa_len hd
  refine Evl.q_cut (M := fun σ' H' => ∃ z r, σ' = [some (.ref a)] ∧ Ex H H' ∧ xs = .str z :: r ∧ (words.lookup z).isSome = true) ?_ ?_
  · walk_at "rd"
    refine ⟨_, .ty "tuple", .type "tuple", .type "tuple", true, rfl, .ty _, .base (.tup ha), kit_ty (by decide +kernel), true, rfl, iteNo (by decide) fun p hp => ?_⟩
    have e := exn (o := .tup []) hp
    refine ⟨_, .tup (sq_t (e _ _ ha)) (dpa_ex e hd), .tuple [], .tup (sq_t upd_same) .nil, hf, rfl, ?_⟩
    rw [eqv_nil]
    cases hd with
    | nil => exact iteY rfl (q _ e)
    | @cons v vs d ds h0 hr0 =>
    refine iteNo (by simp) ⟨_, e _ _ ha, _, atI_0, ?_⟩
    have ty := dp_ty (dp_ex e _ _ h0)
    have no : ∀ {t : String}, tyD d = t → kitB t "str" = some false → isOpD (d :: ds) = false → rIsi K [v, V.ty "str"] (upd H p (.tup [])) fun x H1 => ∃ c, x = V.bl c ∧ if c = false then Q (V.bl false) H1 else ∃ x, H1 a = some (HO.tup x) ∧ ∃ x_2, atI x 0 = some x_2 ∧ ∃ z, x_2 = V.str z ∧ if (List.lookup z words).isSome = false then Q (V.bl false) H1 else Ex H H1 ∧ ∃ x x_3, v :: vs = V.str x :: x_3 ∧ (List.lookup x words).isSome = true := fun {t} et k f => by
      rw [et] at ty
      refine ⟨_, .ty "str", .type t, .type "str", false, rfl, .ty _, ty, kit_ty k, false, rfl, iteY rfl ?_⟩
      have := q _ e
      rw [f] at this
      exact this
    cases h0 with
    | non => exact no rfl (by decide +kernel) rfl
    | bl b => exact no (t := "bool") rfl (by decide +kernel) rfl
    | int b => exact no (t := "int") rfl (by decide +kernel) rfl
    | lst _ _ => exact no (t := "list") rfl (by decide +kernel) rfl
    | tup _ _ => exact no (t := "tuple") rfl (by decide +kernel) rfl
    | str z =>
      refine ⟨_, .ty "str", .type "str", .type "str", true, rfl, .ty _, ty, kit_ty (by decide +kernel), true, rfl, iteNo (by decide) ⟨_, e _ _ ha, _, atI_0, z, rfl, ?_⟩⟩
      refine ite2 (fun h => ?_) fun h => ⟨e, z, _, rfl, (Bool.not_eq_false _).mp h⟩
      have := q _ e
      have h2 : words.lookup z = none := Option.not_isSome_iff_eq_none.mp (fun t => by rw [show (words.lookup z).isSome = false from h] at t; cases t)
      have e2 : isOpD (.str z :: ds) = false := by
        show isOpR z ds = false
        unfold isOpR
        rw [h2]
      rw [e2] at this
      exact this
  rintro σ H1 ⟨z, r, rfl, e1, rfl, hz⟩
  cases hd with
  | @cons v vs d ds h0 hr0 =>
  cases h0
  obtain ⟨v0, hv⟩ := Option.isSome_iff_exists.mp hz
  have ha1 := e1 _ _ ha
  have q1 := q H1 e1
  have eR : isOpD (.str z :: ds) = isOpR z ds := rfl
  rw [eR] at q1
  have ll : r.length = ds.length := dpa_len hr0
  refine Evl.q_cut (M := fun σ' H' => ∃ lo : Int, σ' = [some (.ref a)] ∧ H1 = H' ∧ words.lookup z = some (.int lo)) ?_ ?_
  · walk_at "rd"
    refine ⟨_, ha1, _, atI_0, z, rfl, v0, hv, ?_⟩
    rcases words_vals hv with rfl | rfl | rfl
    · refine iteY rfl ⟨_, .inr (sq_t ha1), ?_⟩
      have eI : isOpR z ds = decide (((V.str z :: r).length : Int) = 1) := by
        unfold isOpR
        rw [hv]
        show decide (ds.length = 0) = _
        rw [List.length_cons]
        exact decide_eq_decide.mpr ⟨fun h => by rw [ll, h]; rfl, fun h => by omega⟩
      rw [eI] at q1
      exact q1
    · exact iteNo (fun z => nomatch z) ⟨_, hv⟩
    · exact iteNo (fun z => nomatch z) ⟨_, hv⟩
  rintro σ _ ⟨lo, rfl, rfl, hv⟩
  unfold sp_is_whole
  walk_at "rd"
  refine ⟨_, .inr (sq_t ha1), ?_⟩
  have eI : isOpR z ds = isNum lo ds := by
    unfold isOpR
    rw [hv]
  rw [eI] at q1
  refine ite2 (fun h => ?_) fun h => ?_
  · have hl1 : r.length = 1 := by rw [List.length_cons] at h; omega
    obtain ⟨v1, rfl⟩ := List.length_eq_one_iff.mp hl1
    cases hr0 with
    | @cons _ _ d1 _ h1 h2 =>
    cases h2
    refine ⟨_, ha1, _, atI_1, _, ha1, _, atI_0, z, rfl, _, hv, _, whole_dp (dp_ex e1 _ _ h1), lo, rfl, ?_⟩
    cases d1 <;> exact q1
  · have e2 : isNum lo ds = false := by
      match ds, ll with
      | [], _ => rfl
      | [x], l => exact absurd (by rw [List.length_cons, l]; rfl) h
      | x :: y :: t, _ => cases x <;> rfl
    rw [e2] at q1
    exact q1
theorem tyx_ex {K : PySem.W.Frag} {H H' : Hp} {v : V} {t : Value} (e : Ex H H') (h : TyX K H v t) : TyX K H' v t := by
  cases h with
  | base b => cases b with
    | non => exact .base .non
    | bl y => exact .base (.bl y)
    | int y => exact .base (.int y)
    | str y => exact .base (.str y)
    | flt y => exact .base (.flt y)
    | lst h => exact .base (.lst (e _ _ h))
    | frz h => exact .base (.frz (e _ _ h))
    | tup h => exact .base (.tup (e _ _ h))
    | dK h => exact .base (.dK (e _ _ h))
    | dT h => exact .base (.dT (e _ _ h))
    | ins h a b c d f => exact .base (.ins (e _ _ h) a b c d f)
  | byt b => exact .byt b
  | set h => exact .set (e _ _ h)
  | kList h c => exact .kList h c
  | kTuple h c => exact .kTuple h c
  | kDict h c => exact .kDict h c
  | fTuple h => exact .fTuple (e _ _ h)
  | fDict h => exact .fDict (e _ _ h)
theorem ior_ex {K : PySem.W.Frag} {H H' : Hp} {v : V} {o : Option Int} (e : Ex H H') (h : IntOr K H v o) : IntOr K H' v o := by
  cases o with
  | some n => exact h
  | none =>
    obtain ⟨t, b1, b2, ty, k⟩ := h
    exact ⟨t, b1, b2, tyx_ex e ty, k⟩
theorem good_up {k k' m m' : Nat} {d : PyData} (h : Good k m d) (hk : k ≤ k') (hm : m ≤ m') : Good k' m' d := ⟨h.1, Nat.le_trans h.2.1 hk, Nat.le_trans h.2.2 hm⟩
/-- what is asked of an item of a list of operations: whether it is one -/
inductive It (K : PySem.W.Frag) (H : Hp) : V → Bool → Prop
  | no {v : V} {t : String} : TyX K H v (.type t) → kitB t "tuple" = some false → It K H v false
  | tup {a : Addr} {xs : List V} {ds : List PyData} : H a = some (.tup xs) → DpAll K H xs ds → fine 20 (.tuple ds) = true → It K H (.ref a) (isOpD ds)
theorem It.ex {H H' : Hp} {v : V} {b : Bool} (e : Ex H H') (h : It K H v b) : It K H' v b := by
  cases h with
  | no t k => exact .no (tyx_ex e t) k
  | tup h d f => exact .tup (e _ _ h) (dpa_ex e d) f
def Its (K : PySem.W.Frag) (H : Hp) (xs : List V) (bs : List Bool) : Prop := xs.length = bs.length ∧ ∀ (i : Nat) x b, xs[i]? = some x → bs[i]? = some b → It K H x b
theorem Its.ex {H H' : Hp} {xs : List V} {bs : List Bool} (e : Ex H H') (h : Its K H xs bs) : Its K H' xs bs := ⟨h.1, fun i x b h1 h2 => (h.2 i x b h1 h2).ex e⟩
/-- what require_operations wishes of a value -/
def ReqQ (K : PySem.W.Frag) (H : Hp) (v : V) (Q : VK) (E : XK) : Prop :=
  (∃ t, TyX K H v (.type t) ∧ kitB t "list" = some false ∧ ∀ H' d, Ex H H' → H d = none → H' d = some (.xd [("item", .non)]) → E (.ref (eC K 0)) (some d) H') ∨
  (∃ a xs bs, v = .ref a ∧ H a = some (.lst xs) ∧ Its K H xs bs ∧ (400 < xs.length → ∀ H' d, Ex H H' → H d = none → H' d = some (.xd [("item", .non)]) → E (.ref (eC K 0)) (some d) H') ∧
    (xs.length ≤ 400 → ∀ i : Nat, bs[i]? = some false → (∀ j : Nat, j < i → bs[j]? = some true) → ∀ H' d, Ex H H' → H d = none → H' d = some (.xd [("item", .int i)]) → E (.ref (eC K 0)) (some d) H') ∧
    (xs.length ≤ 400 → (∀ b ∈ bs, b = true) → ∀ H', Ex H H' → Q .non H'))
theorem ReqQ.ex {H H1 : Hp} {v : V} {Q : VK} {E : XK} (e : Ex H H1) (h : ReqQ K H v Q E) : ReqQ K H1 v Q E := by
  rcases h with ⟨t, ty, k, q⟩ | ⟨a, xs, bs, rfl, ha, hi, q1, q2, q3⟩
  · exact .inl ⟨t, tyx_ex e ty, k, fun H' d e' n h => q H' d (e.trans e') (Evl.fresh_back e n) h⟩
  · exact .inr ⟨a, xs, bs, rfl, e _ _ ha, hi.ex e, fun l H' d e' n h => q1 l H' d (e.trans e') (Evl.fresh_back e n) h, fun l i b j H' d e' n h => q2 l i b j H' d (e.trans e') (Evl.fresh_back e n) h, fun l b H' e' => q3 l b H' (e.trans e')⟩
def sp_require_operations (K : PySem.W.Frag) : Sp := sp1 fun v H Q E => ReqQ K H v Q E
theorem sc_require_operations : FnScope ["value", "item", "operation"] ["value"] (defScope s_require_operations) := ⟨rfl, rfl, rfl, by decide +kernel, rfl, by decide +kernel, by decide +kernel⟩
theorem ok_require_operations (T : Txt P w K mg base) : FnOk P w K mg base (L2.CX P w) 4 T.a_require_operations T.fd_require_operations ["value"] (sp_require_operations K) := by
  refine FunD.ok T.F_require_operations sc_require_operations (fun vs H Q E h => ar1 h) (fun cdv A fr s H vs Q E hr h => ⟨_, (Evl.pss_cut (ps_if (PW.pt (pw_or (pt_not (pt_val (pe_callB (r := rIsi K) call_isi (by rfl) T.n_isinstance (by decide +kernel) (pa_cons (pv 0) (pa_cons (pe_bltn (v := .ty "list") (by rfl) T.n_list (by decide +kernel) rfl) pa_nil))))) (pw_or1 (pt_cmpR op_gt (pe_callB (r := rLenQ K) call_lenQ (by rfl) T.n_len (by decide +kernel) (pa_cons (pv 0) pa_nil)) (pe_glob (v := .int 400) (by rfl) T.c_MOST_OPERATIONS ⟨_, rfl⟩) (nomark _))))) (pss_one (ps_raise rfl (takes_of rfl rfl rfl rfl) (pmk_init T.i_0 (ok_InvalidOperations___init__ T) (hr.mono (by decide)) T.b_InvalidOperations___init__ (by rfl) (T.er.gl 0 (by decide)) (pa_cons pe_non pa_nil)))) pss_nil) (pss_one (ps_for (passes_of rfl) rfl (pi_enum (by rfl) T.n_enumerate (pa_cons (pv 0) pa_nil)) (pg_tupT (n := 2) rfl (pgs_cons (pg_name (i := 1) sc_require_operations.nd rfl (.inl rfl)) (pgs_cons (pg_name (i := 2) sc_require_operations.nd rfl (.inl rfl)) pgs_nil))) (pss_one (ps_if (pt_not (pt_val (pe_call (ok_is_operation T) hr (by rfl) T.g_is_operation T.F_is_operation.kp T.b_is_operation .nil passL (pa_cons (pv 2) pa_nil)))) (pss_one (ps_raise rfl (takes_of rfl rfl rfl rfl) (pmk_init T.i_0 (ok_InvalidOperations___init__ T) (hr.mono (by decide)) T.b_InvalidOperations___init__ (by rfl) (T.er.gl 0 (by decide)) (pa_cons (pv 1) pa_nil)))) pss_nil))))), ?_⟩)
  obtain ⟨v, rfl, h⟩ := h
  rcases h with ⟨t, ty, kt, q⟩ | ⟨a, xs, bs, rfl, ha, hi, q1, q2, q3⟩
  · refine Evl.q_cut (M := fun σ' H' => False) ?_ (fun _ _ h => h.elim)
    walk_at "rd"
    refine ⟨v, .ty "list", .type t, .type "list", false, rfl, .ty _, ty, kit_ty kt, false, rfl, iteY rfl fun d hd => ?_⟩
    exact q _ d (exn hd) hd upd_same
  refine Evl.q_cut (M := fun σ' H' => σ' = [some (.ref a), none, none] ∧ H = H' ∧ xs.length ≤ 400) ?_ ?_
  · walk_at "rd"
    refine ⟨_, .ty "list", .type "list", .type "list", true, rfl, .ty _, .base (.lst ha), kit_ty (by decide +kernel), true, rfl, iteNo (by decide) ⟨_, .inl (sq_l ha), ?_⟩⟩
    refine ite2 (fun h d hd => q1 (by omega) _ d (exn hd) hd upd_same) fun h => ⟨rfl, by omega⟩
  rintro σ _ ⟨rfl, rfl, hl⟩
  simp only [tFor_enum]
  walk_at "rd"
  have lb := hi.1
  refine ⟨_, sq_l ha, forE_in (xs := xs) (fun i σ' H' => ∃ x y, σ' = [some (.ref a), x, y] ∧ Ex H H' ∧ ∀ j : Nat, j < i → bs[j]? = some true) ⟨_, _, rfl, .refl _, fun j h => by omega⟩ ?_ ?_ ?_⟩
  · rintro i σ' H' _ ⟨x, y, rfl, e, _⟩
    exact sq_l (e _ _ ha)
  · rintro σ' H' ⟨x, y, rfl, e, hj⟩
    refine q3 hl (fun b hb => ?_) H' e
    obtain ⟨j, hj2⟩ := List.mem_iff_getElem?.mp hb
    have := hj j (by have := (List.getElem?_eq_some_iff.mp hj2).1; omega)
    rw [hj2] at this
    exact Option.some.inj this
  · rintro i x T0 σ' H' hx ⟨y, z, rfl, e, hj⟩ hT
    have hil := (List.getElem?_eq_some_iff.mp hx).1
    have hb : bs[i]? = some bs[i] := List.getElem?_eq_getElem (by omega)
    have e1 := e.trans (exn (o := .tup [.int (i : Nat), x]) hT)
    have it := (hi.2 i x _ hx hb).ex e1
    unfold sp_is_operation
    walk_at "rd"
    generalize bs[i] = b at *
    have fin : ∀ H2, Ex H H2 → (if b = false then ∀ d, H2 d = none → E (.ref (eC K 0)) (some d) (upd H2 d (.xd [("item", .int i)])) else (Ex H H2 ∧ ∀ j : Nat, j < i + 1 → bs[j]? = some true)) := fun H2 e2 => by
      refine ite2 (fun h d hd => ?_) fun h => ⟨e2, fun j hj2 => ?_⟩
      · exact q2 hl i (by rw [hb, h]) hj _ d (e2.trans (exn hd)) (Evl.fresh_back e2 hd) upd_same
      · by_cases c : j = i
        · rw [c, hb]
          cases b <;> first | rfl | exact absurd rfl h
        · exact hj j (by omega)
    cases it with
    | no t k => exact .inl ⟨_, t, k, fin _ e1⟩
    | tup h1 h2 h3 =>
      exact .inr ⟨_, rfl, _, h1, _, h2, h3, fun H2 e2 => fin H2 (e1.trans e2)⟩
theorem isOp_opD {o : Op} (h : opOk o) : ∃ ds, opD o = .tuple ds ∧ isOpD ds = true := by
  have w : ∀ {z : Str} {lo n : Int}, words.lookup z = some (.int lo) → lo ≤ n → n ≤ 10 ^ 30 → isOpD [.str z, .int n] = true := fun hz h1 h2 => by
    show isOpR _ _ = true
    unfold isOpR
    rw [hz]
    exact decide_eq_true ⟨h1, by omega⟩
  cases o with
  | go k => exact ⟨_, rfl, w (z := "go") (lo := 1) (by decide +kernel) h.1 h.2⟩
  | keep => exact ⟨_, rfl, by decide +kernel⟩
  | take k => exact ⟨_, rfl, w (z := "take") (lo := 0) (by decide +kernel) h.1 h.2⟩
  | free k => exact ⟨_, rfl, w (z := "free") (lo := 0) (by decide +kernel) h.1 h.2⟩
  | back => exact ⟨_, rfl, by decide +kernel⟩
/-- what is_operation asks of an operation -/
theorem isOp_ask {H : Hp} {S : Addr → Prop} {v : V} {o : Op} (h : Rp H S v (opD o)) (ok : opOk o) : ∃ a xs ds, v = .ref a ∧ H a = some (.tup xs) ∧ DpAll K H xs ds ∧ fine 20 (.tuple ds) = true ∧ isOpD ds = true := by
  obtain ⟨ds, e, i⟩ := isOp_opD ok
  have nm := opOk_num ok
  have f := opD_fine (o := o) 19 nm.1 (by omega)
  rw [e] at h f
  cases h with
  | tup _ h a => exact ⟨_, _, _, rfl, h, a.dp, f, i⟩
/-! ### lists of operations, judged -/
def TSt.fw : TSt → List Op → Nat → Option Nat
  | _, [], _ => none
  | t, o :: os, i => if t.can o = true then TSt.fw (t.did o) os (i + 1) else some i
theorem fw_can {t : TSt} {o : Op} {os : List Op} {i : Nat} (c : t.can o = true) : t.fw (o :: os) i = (t.did o).fw os (i + 1) := if_pos c
theorem fw_not {t : TSt} {o : Op} {os : List Op} {i : Nat} (c : t.can o = false) : t.fw (o :: os) i = some i := if_neg (by rw [c]; decide)
theorem fw_ok : ∀ {os : List Op} {t : TSt} {i : Nat} {more : List Op}, t.ok os → t.fw (os ++ more) i = (t.run os).fw more (i + os.length)
  | [], t, i, more, _ => rfl
  | o :: os, t, i, more, h => by
    rw [List.cons_append, fw_can h.1, fw_ok h.2, show i + (o :: os).length = i + 1 + os.length by rw [List.length_cons]; omega]
    rfl
theorem fw_none : ∀ {os : List Op} {t : TSt} {i : Nat}, t.fw os i = none → t.ok os
  | [], _, _, _ => trivial
  | o :: os, t, i, h => by
    cases c : t.can o with
    | true => rw [fw_can c] at h; exact ⟨c, fw_none h⟩
    | false => rw [fw_not c] at h; cases h
theorem fw_lt : ∀ {os : List Op} {t : TSt} {i j : Nat}, t.fw os i = some j → i ≤ j ∧ j < i + os.length
  | [], _, _, _, h => by cases h
  | o :: os, t, i, j, h => by
    cases c : t.can o with
    | true =>
      rw [fw_can c] at h
      have := fw_lt h
      rw [List.length_cons]
      omega
    | false =>
      rw [fw_not c] at h
      cases h
      rw [List.length_cons]
      omega
def wrV : Option Nat → V
  | none => .non
  | some j => .int j
/-- a list of operations -/
def OpL (H : Hp) (a : Addr) (os : List Op) : Prop := ∃ ls, H a = some (.lst ls) ∧ RpA H (fun _ => True) ls (os.map opD) ∧ (∀ o ∈ os, opOk o) ∧ os.length ≤ 400
theorem OpL.ex {H H' : Hp} {a : Addr} {os : List Op} (e : Ex H H') (h : OpL H a os) : OpL H' a os := by
  obtain ⟨ls, h1, h2, h3⟩ := h
  exact ⟨ls, e _ _ h1, h2.ex e, h3⟩
theorem OpL.at_ {H : Hp} {os : List Op} {ls : List V} {i : Nat} {v : V} (rl : RpA H (fun _ => True) ls (os.map opD)) (hx : ls[i]? = some v) : ∃ o a, os[i]? = some o ∧ v = .ref a ∧ H a = some (.tup (opV o)) := by
  obtain ⟨d, hd, rp⟩ := rl.at' hx
  rw [List.getElem?_map] at hd
  obtain ⟨o, ho, rfl⟩ := Option.map_eq_some_iff.mp hd
  obtain ⟨b, rfl, _, hb⟩ := rp_op rp
  exact ⟨o, b, ho, rfl, hb⟩
def sp_require_list (K : PySem.W.Frag) : Sp := sp3 fun x y z H Q _ => ∃ (n s : Int) (a : Addr) (os : List Op), x = .int n ∧ y = .int s ∧ z = .ref a ∧ OpL H a os ∧ 1 ≤ n ∧ n ≤ 10 ^ 30 ∧ 1 ≤ s ∧ s ≤ 100 ∧ ∀ H', Ex H H' → Q .non H'
theorem sc_require_list : FnScope ["length", "slots", "operations"] ["length", "slots", "operations"] (defScope s_require_list) := ⟨rfl, rfl, rfl, by decide +kernel, rfl, by decide +kernel, by decide +kernel⟩
theorem ok_require_list (T : Txt P w K mg base) : FnOk P w K mg base (L2.CX P w) 5 T.a_require_list T.fd_require_list ["length", "slots", "operations"] (sp_require_list K) := by
  refine FunD.ok T.F_require_list sc_require_list (fun vs H Q E h => ar3 h) (fun cdv A fr s H vs Q E hr h => ⟨_, PSs.nox (pss_cons (ps_expr (pe_call (ok_require_task T) hr (by rfl) T.g_require_task T.F_require_task.kp T.b_require_task .nil passL (pa_cons (pv 0) (pa_cons (pv 1) pa_nil)))) (pss_one (ps_expr (pe_call (ok_require_operations T) hr (by rfl) T.g_require_operations T.F_require_operations.kp T.b_require_operations .nil passL (pa_cons (pv 2) pa_nil))))), ?_⟩)
  obtain ⟨_, _, _, rfl, n, s, a, os, rfl, rfl, rfl, ⟨ls, ha, rl, ok, lo⟩, n1, n2, s1, s2, q⟩ := h
  unfold sp_require_task sp_require_operations
  walk_at "rd"
  refine ⟨n1, by omega, s1, s2, .inr ⟨a, ls, List.replicate ls.length true, rfl, ha, ⟨by simp, fun i x b hx hb => ?_⟩, fun h => ?_, fun _ i h => ?_, fun _ _ => q⟩⟩
  · obtain ⟨d, hd, rp⟩ := rl.at' hx
    rw [List.getElem?_map] at hd
    obtain ⟨o, hoi, rfl⟩ := Option.map_eq_some_iff.mp hd
    obtain ⟨a, xs, ds, rfl, h1, h2, h3, h4⟩ := isOp_ask (K := K) rp (ok o (List.mem_of_getElem? hoi))
    have hb2 : b = true := List.eq_of_mem_replicate (List.mem_of_getElem? hb)
    rw [hb2, ← h4]
    exact .tup h1 h2 h3
  · have := rl.len
    rw [List.length_map] at this
    omega
  · have := List.eq_of_mem_replicate (List.mem_of_getElem? h)
    cases this
def sp_wrong_of (K : PySem.W.Frag) : Sp := sp3 fun x y z H Q _ => ∃ (n s : Int) (a : Addr) (os : List Op), x = .int n ∧ y = .int s ∧ z = .ref a ∧ OpL H a os ∧ ∀ H', Ex H H' → Q (wrV ((t0S n s).fw os 0)) H'
theorem sc_wrong_of : FnScope ["length", "slots", "operations", "trace", "number", "operation"] ["length", "slots", "operations"] (defScope s_wrong_of) := ⟨rfl, rfl, rfl, by decide +kernel, rfl, by decide +kernel, by decide +kernel⟩
theorem ok_wrong_of (T : Txt P w K mg base) : FnOk P w K mg base (L2.CX P w) 3 T.a_wrong_of T.fd_wrong_of ["length", "slots", "operations"] (sp_wrong_of K) := by
  refine FunD.ok T.F_wrong_of sc_wrong_of (fun vs H Q E h => ar3 h) (fun cdv A fr s H vs Q E hr h => ⟨_, PSs.nox (Evl.pss_cut (ps_set (i := 3) sc_wrong_of.nd rfl (.inl rfl) (pe_make T.k_Trace (ok_Trace___init__ T) hr (by rfl) T.g_Trace T.b_Trace___init__ .nil passL (pa_cons (pv 0) (pa_cons (pv 1) pa_nil)))) (pss_cons (ps_for PassesOwn.never rfl (pi_enum (by rfl) T.n_enumerate (pa_cons (pv 2) pa_nil)) (pg_tupT (n := 2) rfl (pgs_cons (pg_name (i := 4) sc_wrong_of.nd rfl (.inl rfl)) (pgs_cons (pg_name (i := 5) sc_wrong_of.nd rfl (.inl rfl)) pgs_nil))) (pss_cons (ps_if (pt_not (pt_val (pe_meth (pv 3) T.c_Trace T.m_Trace_can_do (ok_Trace_can_do T) (hr.mono (by decide)) T.b_Trace_can_do .nil passL (pa_cons (pv 5) pa_nil)))) (pss_one (ps_ret (pv 4))) pss_nil) (pss_one (ps_expr (pe_meth (pv 3) T.c_Trace T.m_Trace_do (ok_Trace_do T) (hr.mono (by decide)) T.b_Trace_do .nil passL (pa_cons (pv 5) pa_nil)))))) (pss_one (ps_ret pe_non)))), ?_⟩)
  obtain ⟨_, _, _, rfl, n, s, a, os, rfl, rfl, rfl, ⟨ls, ha, rl, ok, lo⟩, q⟩ := h
  have ll : ls.length = os.length := by rw [rl.len, List.length_map]
  refine Evl.q_cut (M := fun σ' H' => ∃ T' KL', σ' = [some (.int n), some (.int s), some (.ref a), some (.ref T'), none, none] ∧ Ex H H' ∧ H T' = none ∧ H KL' = none ∧ Tr K H' T' KL' (t0S n s)) ?_ ?_
  · unfold sp_Trace___init__
    walk_at "rd"
    intro T' dT hT hdT ne
    have e0 := (exn (o := .own T') hdT).trans (exn (o := .ins (He.ga K "Trace") dT []) (by rw [upd_ne (Ne.symm ne)]; exact hT))
    refine fun H' KL' b hK t => ⟨fun c o hc => b c o (fun z => by rw [z, hT] at hc; cases hc) (e0 _ _ hc), hT, KL', Evl.fresh_back e0 hK, t⟩
  rintro σ H1 ⟨T', KL', rfl, e1, nT, nK, tr⟩
  walk_at "rd"
  simp only [tFor_enum]
  walk_at "rd"
  have kl0 : (t0S n s).kept.length = 1 := rfl
  refine ⟨_, sq_l (e1 _ _ ha), forE_in (xs := ls) (fun i σ' H' => ∃ x y t', σ' = [some (.int n), some (.int s), some (.ref a), some (.ref T'), x, y] ∧ Ex H H' ∧ Tr K H' T' KL' t' ∧ t'.kept.length ≤ 1 + i ∧ (t0S n s).fw os 0 = t'.fw (os.drop i) i) ⟨none, none, _, rfl, e1, tr, Nat.le_refl _, rfl⟩ ?_ ?_ ?_⟩
  · rintro i σ' H' _ ⟨x, y, t', rfl, e, _⟩
    exact sq_l (e _ _ ha)
  · rintro σ' H' ⟨x, y, t', rfl, e, tr', _, pq⟩
    walk_at "rd"
    rw [pq, ll, List.drop_length] at q
    exact q H' e
  rintro i v T1 σ' H' hx ⟨x, y, t', rfl, e, tr', kl', pq⟩ hT1
  obtain ⟨o, b, hoi, rfl, hb⟩ := OpL.at_ rl hx
  have hi := (List.getElem?_eq_some_iff.mp hoi).1
  have eT := e.trans (exn (o := .tup [.int (i : Nat), .ref b]) hT1)
  have trT : Tr K (upd H' T1 (.tup [.int (i : Nat), .ref b])) T' KL' t' := by
    obtain ⟨⟨dT, hT⟩, hK, hk⟩ := tr'
    exact ⟨⟨dT, exn hT1 _ _ hT⟩, exn hT1 _ _ hK, hk⟩
  have hTu := upd_same (H := H') (a := T1) (o := .tup [.int (i : Nat), .ref b])
  have hbx := eT _ _ hb
  generalize upd H' T1 (.tup [.int (i : Nat), .ref b]) = Hx at *
  have pq2 : (t0S n s).fw os 0 = t'.fw (o :: os.drop (i + 1)) i := by
    rw [pq]
    congr 1
    rw [List.drop_eq_getElem_cons hi, (List.getElem?_eq_some_iff.mp hoi).2]
  unfold sp_Trace_can_do sp_Trace_do
  walk_at "rd"
  obtain ⟨⟨dT, hT⟩, hK⟩ := id trT
  refine ⟨_, hTu, rfl, _, _, rfl, _, _, rfl, rfl, ?_⟩
  refine ⟨_, _, hT, rfl, KL', _, rfl, t', trT, o, hbx, ?_⟩
  refine ite2 (fun h => ?_) fun h => ?_
  · rw [pq2, fw_not h] at q
    exact q Hx eT
  · have hc : t'.can o = true := by simpa using h
    refine ⟨_, _, hT, rfl, KL', _, rfl, t', trT, by omega, o, hbx, hc, fun H9 b9 t9 => ⟨?_, t'.did o, t9, ?_, ?_⟩⟩
    · intro c w hc
      exact b9 c w (fun z => z.elim (fun z => by rw [z, nT] at hc; cases hc) fun z => by rw [z, nK] at hc; cases hc) (eT _ _ hc)
    · have h2 := run_kept [o] t'
      have : t'.run [o] = t'.did o := rfl
      rw [this] at h2
      have : [o].length = 1 := rfl
      omega
    · rw [pq2, fw_can hc]
def sp_first_wrong (K : PySem.W.Frag) : Sp := sp3 fun x y z H Q _ => ∃ (n s : Int) (a : Addr) (os : List Op), x = .int n ∧ y = .int s ∧ z = .ref a ∧ OpL H a os ∧ 1 ≤ n ∧ n ≤ 10 ^ 30 ∧ 1 ≤ s ∧ s ≤ 100 ∧ ∀ H', Ex H H' → Q (wrV ((t0S n s).fw os 0)) H'
theorem sc_first_wrong : FnScope ["length", "slots", "operations"] ["length", "slots", "operations"] (defScope s_first_wrong) := ⟨rfl, rfl, rfl, by decide +kernel, rfl, by decide +kernel, by decide +kernel⟩
theorem ok_first_wrong (T : Txt P w K mg base) : FnOk P w K mg base (L2.CX P w) 6 T.a_first_wrong T.fd_first_wrong ["length", "slots", "operations"] (sp_first_wrong K) := by
  refine FunD.ok T.F_first_wrong sc_first_wrong (fun vs H Q E h => ar3 h) (fun cdv A fr s H vs Q E hr h => ⟨_, PSs.nox (pss_cons (ps_expr (pe_call (ok_require_list T) hr (by rfl) T.g_require_list T.F_require_list.kp T.b_require_list .nil passL (pa_cons (pv 0) (pa_cons (pv 1) (pa_cons (pv 2) pa_nil))))) (pss_one (ps_ret (pe_call (ok_wrong_of T) (hr.mono (by decide)) (by rfl) T.g_wrong_of T.F_wrong_of.kp T.b_wrong_of .nil passL (pa_cons (pv 0) (pa_cons (pv 1) (pa_cons (pv 2) pa_nil))))))), ?_⟩)
  obtain ⟨_, _, _, rfl, n, s, a, os, rfl, rfl, rfl, ol, n1, n2, s1, s2, q⟩ := h
  unfold sp_require_list sp_wrong_of
  walk_at "rd"
  exact ⟨os, ol, n1, by omega, s1, s2, fun H1 e1 => ⟨os, ol.ex e1, fun H2 e2 => q H2 (e1.trans e2)⟩⟩
def sp_plan_list (K : PySem.W.Frag) : Sp := sp2 fun x y H Q E => ∃ (n s : Int), x = .int n ∧ y = .int s ∧ PB n s ∧ (opsN n s ≤ 400 → ∀ v H', Ex H H' → Rp H' (New H) v (.list ((opsL n s 0).map opD)) → Q v H') ∧
  (400 < opsN n s → ∀ H' d, Ex H H' → H d = none → H' d = some (.xd [("limit", .int 400)]) → E (.ref (eC K 4)) (some d) H')
theorem sc_plan_list : FnScope ["length", "slots", "plan", "number"] ["length", "slots"] (defScope s_plan_list) := ⟨rfl, rfl, rfl, by decide +kernel, rfl, by decide +kernel, by decide +kernel⟩
theorem ok_plan_list (T : Txt P w K mg base) : FnOk P w K mg base (L2.CX P w) 6 T.a_plan_list T.fd_plan_list ["length", "slots"] (sp_plan_list K) := by
  refine FunD.ok T.F_plan_list sc_plan_list (fun vs H Q E h => ar2 h) (fun cdv A fr s H vs Q E hr h => ⟨_, (Evl.pss_cut (ps_set (i := 2) sc_plan_list.nd rfl (.inr rfl) (pe_call (ok_whole_plan T) hr (by rfl) T.g_whole_plan T.F_whole_plan.kp T.b_whole_plan .nil passL (pa_cons (pv 0) (pa_cons (pv 1) pa_nil)))) (Evl.pss_cut (ps_if (pt_cmpR op_gt (pe_ix ix_tupT (pv 2) pe_int (fun _ _ => rfl)) (pe_glob (v := .int 400) (by rfl) T.c_MOST_LISTED ⟨_, rfl⟩) (nomark _)) (pss_one (ps_raise rfl (takes_of rfl rfl rfl rfl) (pmk_init T.i_4 (ok_TooLarge___init__ T) (hr.mono (by decide)) T.b_TooLarge___init__ (by rfl) (T.er.gl 4 (by decide)) (pa_cons (pe_glob (v := .int 400) (by rfl) T.c_MOST_LISTED ⟨_, rfl⟩) pa_nil)))) pss_nil) (pss_one (ps_ret (pe_lc (own := [("number", 3)]) rfl sc_plan_list.nd (pi_range1 (by rfl) T.n_range (pa_cons (pe_ix ix_tupT (pv 2) pe_int (fun _ _ => rfl)) pa_nil)) (blkOk_by (N := ["length", "slots", "plan", "number"]) (sc := defScope s_plan_list) (by decide +kernel)) (fun _ _ _ _ _ => (pg_name (i := 3) sc_plan_list.nd rfl (Or.inl rfl))) (fun _ _ _ _ _ => pts_nil) (fun _ _ _ _ _ => (pe_call (ok_operation_of T) (hr.mono (by decide)) (by rfl) T.g_operation_of T.F_operation_of.kp T.b_operation_of .nil passL (pa_cons (pv 2) (pa_cons (pv 3) pa_nil))))))))), ?_⟩)
  obtain ⟨_, _, rfl, n, s, rfl, rfl, hb, q1, q2⟩ := h
  have og := opsN_ge n s hb.1 hb.2.2.1
  refine Evl.q_cut (M := fun σ' H' => ∃ l : Addr, σ' = [some (.int n), some (.int s), some (.ref l), none] ∧ Ex H H' ∧ H' l = some (.tup ((planT 0 n s).map V.int))) ?_ ?_
  · unfold sp_whole_plan
    walk_at "rd"
    exact ⟨hb, fun p H2 hp e2 h2 => ⟨e2, h2⟩⟩
  rintro σ H1 ⟨l, rfl, e1, hl⟩
  refine Evl.q_cut (M := fun σ' H' => σ' = [some (.int n), some (.int s), some (.ref l), none] ∧ H1 = H' ∧ opsN n s ≤ 400) ?_ ?_
  · walk_at "rd"
    simp only [hl, planT]
    walk_at "rd"
    exact ite2 (fun h d hd => q2 h _ d (e1.trans (exn hd)) (Evl.fresh_back e1 hd) upd_same) fun h => by omega
  rintro σ _ ⟨rfl, rfl, ho⟩
  have n1 := hb.1
  have s1 := hb.2.2.1
  have hl' := opsL_len n s n1 s1 0
  walk_at "rd"
  refine lc_rng (n := (opsN n s).toNat) (fun i => opD (opAt n s 0 i)) (fun R q => ?_) (by omega) (fun _ => rfl) (fun i H2 hi e R k => ?_) ?_
  · walk_at "rd"
    simp only [hl, planT]
    walk_at "rd"
    rw [show (((opsN n s).toNat : Nat) : Int) = opsN n s by omega] at q
    exact q
  · simp only [wipe]
    unfold sp_operation_of
    walk_at "rd"
    exact ⟨0, n, s, e _ _ hl, hb, by omega, by omega, fun p H' hp e' h' => k _ H' e' (op_rp hp h')⟩
  · intro v H2 e2 hv
    have e : ((List.range (opsN n s).toNat).map fun (i : Nat) => opD (opAt n s 0 (i : Int))) = (opsL n s 0).map opD := by
      rw [← opsL_all n1 s1 0, List.map_map, show (opsL n s 0).length = (opsN n s).toNat by omega]
      rfl
    rw [e] at hv
    exact q1 ho v H2 (e1.trans e2) (hv.sub (new_ex e1))
/-! ### lists gone through -/
def sp_Trace_copied (K : PySem.W.Frag) : Sp := sp1 fun x H Q _ => ∃ (T KL : Addr) (t : TSt), x = .ref T ∧ Tr K H T KL t ∧ ∀ H' T' KL', Ex H H' → H T' = none → H KL' = none → Tr K H' T' KL' t → Q (.ref T') H'
theorem sc_Trace_copied : FnScope ["self", "found"] ["self"] (defScope s_Trace_copied) := ⟨rfl, rfl, rfl, by decide +kernel, rfl, by decide +kernel, by decide +kernel⟩
theorem ok_Trace_copied (T : Txt P w K mg base) : FnOk P w K mg base (L2.CX P w) 3 T.a_Trace_copied T.fd_Trace_copied ["self"] (sp_Trace_copied K) := by
  refine FunD.ok T.F_Trace_copied sc_Trace_copied (fun vs H Q E h => ar1 h) (fun cdv A fr s H vs Q E hr h => ⟨_, PSs.nox (Evl.pss_cut (ps_set (i := 1) sc_Trace_copied.nd rfl (.inl rfl) (pe_make T.k_Trace (ok_Trace___init__ T) hr (by rfl) T.g_Trace T.b_Trace___init__ .nil passL (pa_cons (pe_fld (pv 0) rfl) (pa_cons (pe_fld (pv 0) rfl) pa_nil)))) (pss_cons (ps_fld (pv 1) (pe_fld (pv 0) rfl) rfl) (pss_cons (ps_fld (pv 1) (pe_callTy call_list_of (by rfl) T.n_list (by decide +kernel) (pa_cons (pe_fld (pv 0) rfl) pa_nil)) rfl) (pss_cons (ps_fld (pv 1) (pe_fld (pv 0) rfl) rfl) (pss_cons (ps_fld (pv 1) (pe_fld (pv 0) rfl) rfl) (pss_one (ps_ret (pv 1)))))))), ?_⟩)
  obtain ⟨_, rfl, T0, KL, t, rfl, tr, q⟩ := h
  obtain ⟨⟨dT, hT⟩, hK, hl⟩ := id tr
  refine Evl.q_cut (M := fun σ' H' => ∃ T' KL', σ' = [some (.ref T0), some (.ref T')] ∧ Ex H H' ∧ H T' = none ∧ H KL' = none ∧ Tr K H' T' KL' (t0S t.n t.s)) ?_ ?_
  · unfold sp_Trace___init__
    walk_at "rd"
    refine ⟨_, _, _, hT, T.c_Trace, T.n_Trace_own_length, _, rfl, _, _, _, hT, T.c_Trace, T.n_Trace_own_slots, _, rfl, fun T' dT' hT' hdT' ne => ⟨_, _, rfl, _, rfl, rfl, fun H' KL' b hK t1 => ?_⟩⟩
    have e0 := (exn (o := .own T') hdT').trans (exn (o := .ins (He.ga K "Trace") dT' []) (by rw [upd_ne (Ne.symm ne)]; exact hT'))
    exact ⟨fun c o hc => b c o (fun z => by rw [z, hT'] at hc; cases hc) (e0 _ _ hc), hT', KL', Evl.fresh_back e0 hK, t1⟩
  rintro σ H1 ⟨T', KL', rfl, e1, nT, nK, tr1⟩
  obtain ⟨⟨dT', hT'⟩, hK', hl'⟩ := tr1
  have ne : T0 ≠ T' := fun z => by rw [z, nT] at hT; cases hT
  have nk : KL ≠ T' := fun z => by rw [z, nT] at hK; cases hK
  have hTa : ∀ {Hx : Hp} (o : HO), Hx T0 = some (.ins (He.ga K "Trace") dT (trF t KL)) → upd Hx T' o T0 = some (.ins (He.ga K "Trace") dT (trF t KL)) := fun o h => by rw [upd_ne ne]; exact h
  have hKa : ∀ (o : HO), upd H1 T' o KL = some (.lst (t.kept.map V.int)) := fun o => by rw [upd_ne nk]; exact e1 _ _ hK
  have hT1 := e1 _ _ hT
  walk_at "rd"
  refine ⟨_, _, _, hT1, T.c_Trace, T.n_Trace_own_hand, _, rfl, _, _, _, hT', T.c_Trace, T.n_Trace_own_hand, (show 6 < 1000 by decide), _, _, _, hTa _ hT1, T.c_Trace, T.n_Trace_own_kept, _, rfl, _, rfl, _, .inl (sq_l (hKa _)), fun l hl0 => ?_⟩
  have nl : l ≠ T' := fun z => by rw [z, upd_same] at hl0; cases hl0
  have hl1 : H1 l = none := by rw [upd_ne nl] at hl0; exact hl0
  refine ⟨_, _, _, exn hl0 _ _ upd_same, T.c_Trace, T.n_Trace_own_kept, (show 6 < 1000 by decide), _, _, _, hTa _ (exn hl0 _ _ (hTa _ hT1)), T.c_Trace, T.n_Trace_own_steps, _, rfl, T.c_Trace, T.n_Trace_own_steps, (show 6 < 1000 by decide), _, _, _, hTa _ (hTa _ (exn hl0 _ _ (hTa _ hT1))), T.c_Trace, T.n_Trace_own_backs, _, rfl, T.c_Trace, T.n_Trace_own_backs, (show 6 < 1000 by decide), ?_⟩
  refine q _ T' l (fun c o hc => ?_) nT (Evl.fresh_back e1 hl1) ⟨⟨dT', upd_same⟩, ?_, hl⟩
  · have nc : c ≠ T' := fun z => by rw [z, nT] at hc; cases hc
    have nc2 : c ≠ l := fun z => by rw [z, Evl.fresh_back e1 hl1] at hc; cases hc
    rw [upd_ne nc, upd_ne nc, upd_ne nc, upd_ne nc2, upd_ne nc]
    exact e1 _ _ hc
  · rw [upd_ne nl, upd_ne nl, upd_ne nl, upd_same]

def TrAll (K : PySem.W.Frag) (n s : Int) (F : Addr) (H : Hp) (us : List V) (os : List Op) : Prop := ∀ j, j < us.length → ∃ T KL, us[j]? = some (.ref T) ∧ T ≠ F ∧ KL ≠ F ∧ Tr K H T KL ((t0S n s).run (os.take j))
def Can (H : Hp) (x y z : V) (Pos : Int → Int → List Op → Prop) : Prop := ∃ (n s : Int) (a : Addr) (os : List Op), x = .int n ∧ y = .int s ∧ z = .ref a ∧ OpL H a os ∧ 1 ≤ n ∧ n ≤ 10 ^ 30 ∧ 1 ≤ s ∧ s ≤ 100 ∧ (t0S n s).ok os ∧ Pos n s os
theorem ok_fw {t : TSt} {os : List Op} {i : Nat} (h : t.ok os) : t.fw os i = none := by
  have := fw_ok (i := i) (more := []) h
  rw [List.append_nil] at this
  rw [this]
  rfl
def sp_traces_of (K : PySem.W.Frag) : Sp := sp3 fun x y z H Q E => Can H x y z fun n s os => ∀ H' F us T KL, Ex H H' → H' F = some (.lst (us ++ [.ref T])) → us.length = os.length → Tr K H' T KL ((t0S n s).run os) → TrAll K n s F H' (us ++ [.ref T]) os → Q (.ref F) H'
theorem sc_traces_of : FnScope ["length", "slots", "operations", "wrong", "found", "operation"] ["length", "slots", "operations"] (defScope s_traces_of) := ⟨rfl, rfl, rfl, by decide +kernel, rfl, by decide +kernel, by decide +kernel⟩
theorem ok_traces_of (T : Txt P w K mg base) : FnOk P w K mg base (L2.CX P w) 6 T.a_traces_of T.fd_traces_of ["length", "slots", "operations"] (sp_traces_of K) := by
  refine FunD.ok T.F_traces_of sc_traces_of (fun vs H Q E h => ar3 h) (fun cdv A fr s H vs Q E hr h => ⟨_, (Evl.pss_cut (ps_expr (pe_call (ok_require_list T) hr (by rfl) T.g_require_list T.F_require_list.kp T.b_require_list .nil passL (pa_cons (pv 0) (pa_cons (pv 1) (pa_cons (pv 2) pa_nil))))) (pss_cons (ps_set (i := 3) sc_traces_of.nd rfl (.inl rfl) (pe_call (ok_wrong_of T) (hr.mono (by decide)) (by rfl) T.g_wrong_of T.F_wrong_of.kp T.b_wrong_of .nil passL (pa_cons (pv 0) (pa_cons (pv 1) (pa_cons (pv 2) pa_nil))))) (Evl.pss_cut (ps_if (pt_cmpR op_notN (pv 3) pe_non (nomark _)) (pss_one (ps_raise rfl (takes_of rfl rfl rfl rfl) (pmk_init T.i_3 (ok_CannotDo___init__ T) (hr.mono (by decide)) T.b_CannotDo___init__ (by rfl) (T.er.gl 3 (by decide)) (pa_cons (pv 3) pa_nil)))) pss_nil) (Evl.pss_cut (ps_set (i := 4) sc_traces_of.nd rfl (.inl rfl) (pe_lst (pa_cons (pe_make T.k_Trace (ok_Trace___init__ T) (hr.mono (by decide)) (by rfl) T.g_Trace T.b_Trace___init__ .nil passL (pa_cons (pv 0) (pa_cons (pv 1) pa_nil))) pa_nil))) (pss_cons (ps_for (passes_of rfl) rfl (pi_list (pv 2)) (pg_name (i := 5) sc_traces_of.nd rfl (.inl rfl)) (pss_cons (ps_expr (pe_bm PySem.F.plainAttrs_list PySem.F.slot_list_append PySem.F.type_list_append mt_append (pv 4) (pa_cons (pe_meth0 (pe_ix (r := rIxL K) ix_list (pv 4) (pe_un un_neg pe_int) (fun _ _ => rfl)) T.c_Trace T.m_Trace_copied (ok_Trace_copied T) (hr.mono (by decide)) T.b_Trace_copied .nil passL) pa_nil))) (pss_one (ps_expr (pe_meth (pe_ix (r := rIxL K) ix_list (pv 4) (pe_un un_neg pe_int) (fun _ _ => rfl)) T.c_Trace T.m_Trace_do (ok_Trace_do T) (hr.mono (by decide)) T.b_Trace_do .nil passL (pa_cons (pv 5) pa_nil)))))) (pss_one (ps_ret (pv 4)))))))), ?_⟩)
  obtain ⟨_, _, _, rfl, n, s, a, os, rfl, rfl, rfl, ol, n1, n2, s1, s2, ok, q2⟩ := h
  have hw := ok_fw (i := 0) ok
  refine Evl.q_cut (M := fun σ' H' => σ' = [some (.int n), some (.int s), some (.ref a), none, none, none] ∧ Ex H H') ?_ ?_
  · unfold sp_require_list
    walk_at "rd"
    exact ⟨os, ol, n1, by omega, s1, s2, fun H' e => e⟩
  rintro σ H1 ⟨rfl, e1⟩
  unfold sp_wrong_of
  walk_at "rd"
  refine ⟨os, ol.ex e1, fun H2 e2 => ?_⟩
  have e12 := e1.trans e2
  rw [hw]
  refine Evl.q_cut (M := fun σ' H' => σ' = [some (.int n), some (.int s), some (.ref a), some .non, none, none] ∧ H2 = H') ?_ ?_
  · walk_at "rd"
    exact iteNo (fun z => z rfl) rfl
  rintro σ _ ⟨rfl, rfl⟩
  obtain ⟨ls, ha, rl, nm, lo⟩ := ol
  have ll : ls.length = os.length := by rw [rl.len, List.length_map]
  refine Evl.q_cut (M := fun σ' H' => ∃ F T' KL', σ' = [some (.int n), some (.int s), some (.ref a), some .non, some (.ref F), none] ∧ Ex H H' ∧ H F = none ∧ H' F = some (.lst [.ref T']) ∧ T' ≠ F ∧ KL' ≠ F ∧ Tr K H' T' KL' (t0S n s)) ?_ ?_
  · unfold sp_Trace___init__
    walk_at "rd"
    intro T' dT hT hdT ne
    have e0 := (exn (o := .own T') hdT).trans (exn (o := .ins (He.ga K "Trace") dT []) (by rw [upd_ne (Ne.symm ne)]; exact hT))
    refine fun H' KL' b hK t p hp => ?_
    have e3 : Ex H2 H' := fun c o hc => b c o (fun z => by rw [z, hT] at hc; cases hc) (e0 _ _ hc)
    obtain ⟨⟨dT2, hT2⟩, hK2, hl2⟩ := t
    have e4 := exn (o := .lst [.ref T']) hp
    exact ⟨(e12.trans e3).trans e4, Evl.fresh_back (e12.trans e3) hp, (fun z => by rw [z, hp] at hT2; cases hT2), KL', (fun z => by rw [z, hp] at hK2; cases hK2), ⟨dT2, e4 _ _ hT2⟩, e4 _ _ hK2, hl2⟩
  rintro σ H3 ⟨F, T', KL', rfl, e3, nF, hF, nT, nK, tr⟩
  unfold sp_Trace_copied sp_Trace_do
  walk_at "rd"
  simp only [tFor_lst]
  walk_at "rd"
  refine forL_in (xs := ls) (sq_l (e3 _ _ ha)) (fun i σ' H' => ∃ x us T', σ' = [some (.int n), some (.int s), some (.ref a), some .non, some (.ref F), x] ∧ Ex H H' ∧ H' F = some (.lst (us ++ [.ref T'])) ∧ us.length = i ∧ TrAll K n s F H' (us ++ [.ref T']) os) ⟨none, [], T', rfl, e3, hF, rfl, fun j hj => ?_⟩ ?_ ?_ ?_
  · have j0 : j = 0 := by simp only [List.nil_append, List.length_cons, List.length_nil] at hj; omega
    subst j0
    exact ⟨T', KL', rfl, nT, nK, tr⟩
  · rintro i σ' H' _ ⟨x, us, T', rfl, e, _⟩
    exact sq_l (e _ _ ha)
  · rintro σ' H' ⟨x, us, T', rfl, e, hF, lu, tra⟩
    walk_at "rd"
    obtain ⟨T, KL, hT, _, _, tr⟩ := tra us.length (by simp)
    have : T = T' := by simp at hT; exact hT.symm
    subst this
    rw [lu, ll, List.take_length] at tr
    exact q2 H' F us T KL e hF (by rw [lu, ll]) tr tra
  rintro i v σ' H4 hx ⟨x, us, T', rfl, e4, hF4, lu, tra⟩
  obtain ⟨o, b, hoi, rfl, hb⟩ := OpL.at_ rl hx
  have hi := (List.getElem?_eq_some_iff.mp hoi).1
  have last : ∀ (ws : List V) (v : V), atI (ws ++ [v]) (-1) = some v := fun ws v => atI_m1 (by simp)
  obtain ⟨T0, KL', hT0, _, _, tr⟩ := tra us.length (by simp)
  have : T0 = T' := by simp at hT0; exact hT0.symm
  subst this
  rw [lu] at tr
  walk_at "rd"
  obtain ⟨⟨dT, hT⟩, hKL⟩ := id tr
  refine ⟨⟨_, sq_l hF4⟩, _, sq_l hF4, _, last _ _, _, rfl, _, _, hT, rfl, _, rfl, _, _, tr, fun H5 T5 K5 e5 nT5 nK5 tr5 => ⟨_, e5 _ _ hF4, by simp only [List.length_append, List.length_cons, List.length_nil]; omega, ?_⟩⟩
  obtain ⟨⟨dT5, hT5⟩, hK5, hl5⟩ := id tr5
  have nFT : T5 ≠ F := fun z => by rw [z, hF4] at nT5; cases nT5
  have nFK : K5 ≠ F := fun z => by rw [z, hF4] at nK5; cases nK5
  have tr6 : ∀ {w : HO}, Tr K (upd H5 F w) T5 K5 ((t0S n s).run (os.take i)) := fun {w} => ⟨⟨dT5, by rw [upd_ne nFT]; exact hT5⟩, by rw [upd_ne nFK]; exact hK5, hl5⟩
  have kl := run_kept (os.take i) (t0S n s)
  have kl0 : (t0S n s).kept.length = 1 := rfl
  have li : (os.take i).length ≤ i := List.length_take_le ..
  have bF : b ≠ F := fun z => by rw [z, nF] at hb; cases hb
  refine ⟨_, sq_l upd_same, _, last _ _, _, rfl, _, _, tr6.1.choose_spec, rfl, _, rfl, _, _, tr6, by omega, o, by rw [upd_ne bF]; exact e5 _ _ (e4 _ _ hb), ok_at ok hoi, fun H7 b7 t7 => ?_⟩
  have hT0' := Evl.fresh_back e4 nT5
  have hK0' := Evl.fresh_back e4 nK5
  refine ⟨fun c w hc => ?_, us ++ [.ref T0], T5, b7 F _ (fun z => z.elim (fun z => nFT z.symm) fun z => nFK z.symm) upd_same, by rw [List.length_append, lu]; rfl, fun j hj => ?_⟩
  · refine b7 c w (fun z => z.elim (fun z => by rw [z, hT0'] at hc; cases hc) fun z => by rw [z, hK0'] at hc; cases hc) ?_
    rw [upd_ne (fun z => by rw [z, nF] at hc; cases hc)]
    exact e5 _ _ (e4 _ _ hc)
  · by_cases hj2 : j < us.length + 1
    · obtain ⟨Tj, Kj, hTj, nTj, nKj, ⟨⟨dj, trj⟩, kj, lj⟩⟩ := tra j (by simpa using hj2)
      have up : ∀ c w, c ≠ F → H4 c = some w → H7 c = some w := fun c w nc hc => b7 c w (fun z => z.elim (fun z => by rw [z, nT5] at hc; cases hc) fun z => by rw [z, nK5] at hc; cases hc) (by rw [upd_ne nc]; exact e5 _ _ hc)
      refine ⟨Tj, Kj, ?_, nTj, nKj, ⟨dj, up _ _ nTj trj⟩, up _ _ nKj kj, lj⟩
      rw [List.getElem?_append_left (by simpa using hj2)]
      exact hTj
    · have ej : j = i + 1 := by simp only [List.length_append, List.length_cons, List.length_nil] at hj; omega
      subst ej
      refine ⟨T5, K5, ?_, nFT, nFK, ?_⟩
      · rw [List.getElem?_append_right (by rw [List.length_append, lu]; exact Nat.le_refl _), List.length_append, lu]
        simp
      · rw [run_succ hoi]
        exact t7
def sp_Trace_steps (K : PySem.W.Frag) : Sp := sp1 fun x H Q _ => ∃ T KL t, x = .ref T ∧ Tr K H T KL t ∧ Q (.int t.steps) H
theorem sc_Trace_steps : FnScope ["self"] ["self"] (defScope s_Trace_steps) := ⟨rfl, rfl, rfl, by decide +kernel, rfl, by decide +kernel, by decide +kernel⟩
theorem ok_Trace_steps (T : Txt P w K mg base) : FnOk P w K mg base (L2.CX P w) 1 T.a_Trace_steps T.fd_Trace_steps ["self"] (sp_Trace_steps K) := by
  refine FunD.ok T.F_Trace_steps sc_Trace_steps (fun vs H Q E h => ar1 h) (fun cdv A fr s H vs Q E hr h => ⟨_, PSs.nox (pss_one (ps_ret (pe_fld (pv 0) rfl))), ?_⟩)
  obtain ⟨_, rfl, T0, KL, t, rfl, ⟨⟨dT, hT⟩, _⟩, q⟩ := h
  walk_at "rd"
  exact ⟨_, _, _, hT, T.c_Trace, T.n_Trace_own_steps, _, rfl, q⟩
def sp_Trace_backs (K : PySem.W.Frag) : Sp := sp1 fun x H Q _ => ∃ T KL t, x = .ref T ∧ Tr K H T KL t ∧ Q (.int t.backs) H
theorem sc_Trace_backs : FnScope ["self"] ["self"] (defScope s_Trace_backs) := ⟨rfl, rfl, rfl, by decide +kernel, rfl, by decide +kernel, by decide +kernel⟩
theorem ok_Trace_backs (T : Txt P w K mg base) : FnOk P w K mg base (L2.CX P w) 1 T.a_Trace_backs T.fd_Trace_backs ["self"] (sp_Trace_backs K) := by
  refine FunD.ok T.F_Trace_backs sc_Trace_backs (fun vs H Q E h => ar1 h) (fun cdv A fr s H vs Q E hr h => ⟨_, PSs.nox (pss_one (ps_ret (pe_fld (pv 0) rfl))), ?_⟩)
  obtain ⟨_, rfl, T0, KL, t, rfl, ⟨⟨dT, hT⟩, _⟩, q⟩ := h
  walk_at "rd"
  exact ⟨_, _, _, hT, T.c_Trace, T.n_Trace_own_backs, _, rfl, q⟩
def sp_Trace_hand (K : PySem.W.Frag) : Sp := sp1 fun x H Q _ => ∃ T KL t, x = .ref T ∧ Tr K H T KL t ∧ Q (.int t.hand) H
theorem sc_Trace_hand : FnScope ["self"] ["self"] (defScope s_Trace_hand) := ⟨rfl, rfl, rfl, by decide +kernel, rfl, by decide +kernel, by decide +kernel⟩
theorem ok_Trace_hand (T : Txt P w K mg base) : FnOk P w K mg base (L2.CX P w) 1 T.a_Trace_hand T.fd_Trace_hand ["self"] (sp_Trace_hand K) := by
  refine FunD.ok T.F_Trace_hand sc_Trace_hand (fun vs H Q E h => ar1 h) (fun cdv A fr s H vs Q E hr h => ⟨_, PSs.nox (pss_one (ps_ret (pe_fld (pv 0) rfl))), ?_⟩)
  obtain ⟨_, rfl, T0, KL, t, rfl, ⟨⟨dT, hT⟩, _⟩, q⟩ := h
  walk_at "rd"
  exact ⟨_, _, _, hT, T.c_Trace, T.n_Trace_own_hand, _, rfl, q⟩
def sp_Trace_kept (K : PySem.W.Frag) : Sp := sp1 fun x H Q _ => ∃ T KL t, x = .ref T ∧ Tr K H T KL t ∧ ∀ a zs H', Ex H H' → H a = none → H' a = some (.lst (List.map V.int zs)) → zs.Perm t.kept → zs.Pairwise (· ≤ ·) → Q (.ref a) H'
theorem sc_Trace_kept : FnScope ["self"] ["self"] (defScope s_Trace_kept) := ⟨rfl, rfl, rfl, by decide +kernel, rfl, by decide +kernel, by decide +kernel⟩
theorem ok_Trace_kept (T : Txt P w K mg base) : FnOk P w K mg base (L2.CX P w) 1 T.a_Trace_kept T.fd_Trace_kept ["self"] (sp_Trace_kept K) := by
  refine FunD.ok T.F_Trace_kept sc_Trace_kept (fun vs H Q E h => ar1 h) (fun cdv A fr s H vs Q E hr h => ⟨_, PSs.nox (pss_one (ps_ret (pe_callB cr_sortedI (by rfl) T.n_sorted (by decide +kernel) (pa_cons (pe_fld (pv 0) rfl) pa_nil)))), ?_⟩)
  obtain ⟨_, rfl, T0, KL, t, rfl, ⟨⟨dT, hT⟩, hK, hl⟩, q⟩ := h
  walk_at "rd"
  exact ⟨_, _, _, hT, T.c_Trace, T.n_Trace_own_kept, _, rfl, KL, t.kept, rfl, sq_l hK, fun ns p pm so hp => q p ns _ (exn hp) hp upd_same pm so⟩
def sp_steps_of (K : PySem.W.Frag) : Sp := sp3 fun x y z H Q E => Can H x y z fun n s os => ∀ H', Ex H H' → Q (.int ((t0S n s).run os).steps) H'
theorem sc_steps_of : FnScope ["length", "slots", "operations"] ["length", "slots", "operations"] (defScope s_steps_of) := ⟨rfl, rfl, rfl, by decide +kernel, rfl, by decide +kernel, by decide +kernel⟩
theorem ok_steps_of (T : Txt P w K mg base) : FnOk P w K mg base (L2.CX P w) 7 T.a_steps_of T.fd_steps_of ["length", "slots", "operations"] (sp_steps_of K) := by
  refine FunD.ok T.F_steps_of sc_steps_of (fun vs H Q E h => ar3 h) (fun cdv A fr s H vs Q E hr h => ⟨_, (pss_one (ps_ret (pe_prop (pe_ix (r := rIxL K) ix_list (pe_call (ok_traces_of T) hr (by rfl) T.g_traces_of T.F_traces_of.kp T.b_traces_of .nil passE (pa_cons (pv 0) (pa_cons (pv 1) (pa_cons (pv 2) pa_nil)))) (pe_un un_neg pe_int) (fun _ _ => rfl)) T.c_Trace T.p_Trace_steps (ok_Trace_steps T) (hr.mono (by decide)) T.b_Trace_steps .nil passL rfl))), ?_⟩)
  obtain ⟨_, _, _, rfl, n, s, a, os, rfl, rfl, rfl, ol, n1, n2, s1, s2, ok, q2⟩ := h
  unfold sp_traces_of
  walk_at "rd"
  refine ⟨n, s, a, os, rfl, rfl, rfl, ol, n1, n2, s1, s2, ok, fun H' F us T' KL' e hF lu tr _ => ?_⟩
  have last : ∀ (ws : List V) (v : V), atI (ws ++ [v]) (-1) = some v := fun ws v => atI_m1 (by simp)
  exact ⟨_, sq_l hF, _, last _ _, _, rfl, _, _, tr.1.choose_spec, _, rfl, T', KL', _, rfl, tr, q2 H' e⟩
def sp_backs_of (K : PySem.W.Frag) : Sp := sp3 fun x y z H Q E => Can H x y z fun n s os => ∀ H', Ex H H' → Q (.int ((t0S n s).run os).backs) H'
theorem sc_backs_of : FnScope ["length", "slots", "operations"] ["length", "slots", "operations"] (defScope s_backs_of) := ⟨rfl, rfl, rfl, by decide +kernel, rfl, by decide +kernel, by decide +kernel⟩
theorem ok_backs_of (T : Txt P w K mg base) : FnOk P w K mg base (L2.CX P w) 7 T.a_backs_of T.fd_backs_of ["length", "slots", "operations"] (sp_backs_of K) := by
  refine FunD.ok T.F_backs_of sc_backs_of (fun vs H Q E h => ar3 h) (fun cdv A fr s H vs Q E hr h => ⟨_, (pss_one (ps_ret (pe_prop (pe_ix (r := rIxL K) ix_list (pe_call (ok_traces_of T) hr (by rfl) T.g_traces_of T.F_traces_of.kp T.b_traces_of .nil passE (pa_cons (pv 0) (pa_cons (pv 1) (pa_cons (pv 2) pa_nil)))) (pe_un un_neg pe_int) (fun _ _ => rfl)) T.c_Trace T.p_Trace_backs (ok_Trace_backs T) (hr.mono (by decide)) T.b_Trace_backs .nil passL rfl))), ?_⟩)
  obtain ⟨_, _, _, rfl, n, s, a, os, rfl, rfl, rfl, ol, n1, n2, s1, s2, ok, q2⟩ := h
  unfold sp_traces_of
  walk_at "rd"
  refine ⟨n, s, a, os, rfl, rfl, rfl, ol, n1, n2, s1, s2, ok, fun H' F us T' KL' e hF lu tr _ => ?_⟩
  have last : ∀ (ws : List V) (v : V), atI (ws ++ [v]) (-1) = some v := fun ws v => atI_m1 (by simp)
  exact ⟨_, sq_l hF, _, last _ _, _, rfl, _, _, tr.1.choose_spec, _, rfl, T', KL', _, rfl, tr, q2 H' e⟩
def sp_extra_steps (K : PySem.W.Frag) : Sp := sp3 fun x y z H Q E => Can H x y z fun n s os => ((t0S n s).run os).backs = n ∧ ∀ H', Ex H H' → Q (.int (((t0S n s).run os).steps - tz n s)) H'
theorem sc_extra_steps : FnScope ["length", "slots", "operations", "last"] ["length", "slots", "operations"] (defScope s_extra_steps) := ⟨rfl, rfl, rfl, by decide +kernel, rfl, by decide +kernel, by decide +kernel⟩
theorem ok_extra_steps (T : Txt P w K mg base) : FnOk P w K mg base (L2.CX P w) 7 T.a_extra_steps T.fd_extra_steps ["length", "slots", "operations"] (sp_extra_steps K) := by
  refine FunD.ok T.F_extra_steps sc_extra_steps (fun vs H Q E h => ar3 h) (fun cdv A fr s H vs Q E hr h => ⟨_, (Evl.pss_cut (ps_set (i := 3) sc_extra_steps.nd rfl (.inl rfl) (pe_ix (r := rIxL K) ix_list (pe_call (ok_traces_of T) hr (by rfl) T.g_traces_of T.F_traces_of.kp T.b_traces_of .nil passE (pa_cons (pv 0) (pa_cons (pv 1) (pa_cons (pv 2) pa_nil)))) (pe_un un_neg pe_int) (fun _ _ => rfl))) (pss_one (ps_ret (pe_ifExp (pt_cmpR op_eq (pe_prop (pv 3) T.c_Trace T.p_Trace_backs (ok_Trace_backs T) (hr.mono (by decide)) T.b_Trace_backs .nil passL rfl) (pv 0) (nomark _)) (pe_op op_sub (pe_prop (pv 3) T.c_Trace T.p_Trace_steps (ok_Trace_steps T) (hr.mono (by decide)) T.b_Trace_steps .nil passL rfl) (pe_call (ok_least_of T) (hr.mono (by decide)) (by rfl) T.g_least_of T.F_least_of.kp T.b_least_of .nil passL (pa_cons (pv 0) (pa_cons (pv 1) pa_nil)))) pe_non)))), ?_⟩)
  obtain ⟨_, _, _, rfl, n, s, a, os, rfl, rfl, rfl, ol, n1, n2, s1, s2, ok, eb, q2⟩ := h
  refine Evl.q_cut (M := fun σ' H' => ∃ T' KL', σ' = [some (.int n), some (.int s), some (.ref a), some (.ref T')] ∧ Ex H H' ∧ Tr K H' T' KL' ((t0S n s).run os)) ?_ ?_
  · unfold sp_traces_of
    walk_at "rd"
    refine ⟨n, s, a, os, rfl, rfl, rfl, ol, n1, n2, s1, s2, ok, fun H' F us T' KL' e hF lu tr _ => ?_⟩
    have last : ∀ (ws : List V) (v : V), atI (ws ++ [v]) (-1) = some v := fun ws v => atI_m1 (by simp)
    exact ⟨_, sq_l hF, _, last _ _, T', rfl, e, KL', tr⟩
  rintro σ H1 ⟨T', KL', rfl, e1, tr⟩
  unfold sp_Trace_backs sp_Trace_steps sp_least_of
  walk_at "rd"
  exact ⟨_, _, tr.1.choose_spec, _, _, tr, ite2 (fun _ => ⟨_, _, tr.1.choose_spec, _, _, tr, n1, n2, s1, by omega, fun H' e => q2 H' (e1.trans e)⟩) fun h => absurd eb h⟩
def sp_is_complete (K : PySem.W.Frag) : Sp := sp3 fun x y z H Q E => Can H x y z fun n s os => ∀ H', Ex H H' → Q (.bl (decide (((t0S n s).run os).backs = n))) H'
def sp_kept_behind (K : PySem.W.Frag) : Sp := sp3 fun x y z H Q E => Can H x y z fun n s os => ∀ H' p a (zs : List Int), Ex H H' → H p = none → H a = none → p ≠ a → H' p = some (.tup [.int ((t0S n s).run os).hand, .ref a]) → H' a = some (.lst (zs.map V.int)) → zs.Perm ((t0S n s).run os).kept → zs.Pairwise (· ≤ ·) → Q (.ref p) H'
theorem sc_kept_behind : FnScope ["length", "slots", "operations", "last"] ["length", "slots", "operations"] (defScope s_kept_behind) := ⟨rfl, rfl, rfl, by decide +kernel, rfl, by decide +kernel, by decide +kernel⟩
theorem ok_kept_behind (T : Txt P w K mg base) : FnOk P w K mg base (L2.CX P w) 7 T.a_kept_behind T.fd_kept_behind ["length", "slots", "operations"] (sp_kept_behind K) := by
  refine FunD.ok T.F_kept_behind sc_kept_behind (fun vs H Q E h => ar3 h) (fun cdv A fr s H vs Q E hr h => ⟨_, (Evl.pss_cut (ps_set (i := 3) sc_kept_behind.nd rfl (.inl rfl) (pe_ix (r := rIxL K) ix_list (pe_call (ok_traces_of T) hr (by rfl) T.g_traces_of T.F_traces_of.kp T.b_traces_of .nil passE (pa_cons (pv 0) (pa_cons (pv 1) (pa_cons (pv 2) pa_nil)))) (pe_un un_neg pe_int) (fun _ _ => rfl))) (pss_one (ps_ret (pe_tup (pa_cons (pe_prop (pv 3) T.c_Trace T.p_Trace_hand (ok_Trace_hand T) (hr.mono (by decide)) T.b_Trace_hand .nil passL rfl) (pa_cons (pe_prop (pv 3) T.c_Trace T.p_Trace_kept (ok_Trace_kept T) (hr.mono (by decide)) T.b_Trace_kept .nil passL rfl) pa_nil)))))), ?_⟩)
  obtain ⟨_, _, _, rfl, n, s, a, os, rfl, rfl, rfl, ol, n1, n2, s1, s2, ok, q2⟩ := h
  refine Evl.q_cut (M := fun σ' H' => ∃ T' KL', σ' = [some (.int n), some (.int s), some (.ref a), some (.ref T')] ∧ Ex H H' ∧ Tr K H' T' KL' ((t0S n s).run os)) ?_ ?_
  · unfold sp_traces_of
    walk_at "rd"
    refine ⟨n, s, a, os, rfl, rfl, rfl, ol, n1, n2, s1, s2, ok, fun H' F us T' KL' e hF lu tr _ => ?_⟩
    have last : ∀ (ws : List V) (v : V), atI (ws ++ [v]) (-1) = some v := fun ws v => atI_m1 (by simp)
    exact ⟨_, sq_l hF, _, last _ _, T', rfl, e, KL', tr⟩
  rintro σ H1 ⟨T', KL', rfl, e1, tr⟩
  unfold sp_Trace_hand sp_Trace_kept
  walk_at "rd"
  refine ⟨_, _, tr.1.choose_spec, _, _, tr, _, _, tr.1.choose_spec, _, _, tr, fun b zs H2 e2 nb hb pm so p hp => ?_⟩
  exact q2 _ p b zs ((e1.trans e2).trans (exn hp)) (Evl.fresh_back (e1.trans e2) hp) (Evl.fresh_back e1 nb) (fun z => by rw [z, hb] at hp; cases hp) upd_same (exn hp _ _ hb) pm so
def sp_most_kept (K : PySem.W.Frag) : Sp := sp3 fun x y z H Q E => Can H x y z fun n s os => ∀ H' (m : Int), Ex H H' → (∃ j, j ≤ os.length ∧ m = (((t0S n s).run (os.take j)).kept.length : Int)) → (∀ j, j ≤ os.length → (((t0S n s).run (os.take j)).kept.length : Int) ≤ m) → Q (.int m) H'
theorem sc_most_kept : FnScope ["length", "slots", "operations", "trace"] ["length", "slots", "operations"] (defScope s_most_kept) := ⟨rfl, rfl, rfl, by decide +kernel, rfl, by decide +kernel, by decide +kernel⟩
theorem ok_most_kept (T : Txt P w K mg base) : FnOk P w K mg base (L2.CX P w) 7 T.a_most_kept T.fd_most_kept ["length", "slots", "operations"] (sp_most_kept K) := by
  refine FunD.ok T.F_most_kept sc_most_kept (fun vs H Q E h => ar3 h) (fun cdv A fr s H vs Q E hr h => ⟨_, (pss_one (ps_ret (pe_callB (r := rMax K) (cr_max rfl) (by rfl) T.n_max (by decide +kernel) (pa_cons (pe_lc (own := [("trace", 3)]) rfl sc_most_kept.nd (pi_list (pe_call (ok_traces_of T) hr (by rfl) T.g_traces_of T.F_traces_of.kp T.b_traces_of .nil passE (pa_cons (pv 0) (pa_cons (pv 1) (pa_cons (pv 2) pa_nil))))) (blkOk_by (N := ["length", "slots", "operations", "trace"]) (sc := defScope s_most_kept) (by decide +kernel)) (fun _ _ _ _ _ => (pg_name (i := 3) sc_most_kept.nd rfl (Or.inl rfl))) (fun _ _ _ _ _ => pts_nil) (fun _ _ _ _ _ => (pe_callB (r := rLenQ K) call_lenQ (by rfl) T.n_len (by decide +kernel) (pa_cons (pe_prop (pv 3) T.c_Trace T.p_Trace_kept (ok_Trace_kept T) (hr.mono (by decide)) T.b_Trace_kept .nil passL rfl) pa_nil)))) pa_nil)))), ?_⟩)
  obtain ⟨_, _, _, rfl, n, s, a, os, rfl, rfl, rfl, ol, n1, n2, s1, s2, ok, q2⟩ := h
  unfold sp_traces_of sp_Trace_kept
  walk_at "rd"
  simp only [tLc_lst]
  walk_at "rd"
  refine ⟨n, s, a, os, rfl, rfl, rfl, ol, n1, n2, s1, s2, ok, fun H' F us T' KL' e hF lu tr tra => ?_⟩
  have lo : os.length ≤ 400 := ol.choose_spec.2.2.2
  have lu2 : (us ++ [V.ref T']).length = os.length + 1 := by rw [List.length_append, lu]; rfl
  refine lcL_g (sq_l hF) (fun _ => true) (fun j => .int (((t0S n s).run (os.take j)).kept.length : Nat)) (by rw [lu2]; omega) ?_ ?_
  · intro j x H3 hx e3 R Rt _ k2
    obtain ⟨Tj, Kj, hTj, _, _, trj⟩ := tra j (List.getElem?_eq_some_iff.mp hx).1
    have : x = .ref Tj := by rw [hTj] at hx; exact (Option.some.inj hx).symm
    subst this
    have trx : Tr K H3 Tj Kj ((t0S n s).run (os.take j)) := ⟨⟨_, e3 _ _ trj.1.choose_spec⟩, e3 _ _ trj.2.1, trj.2.2⟩
    simp only [wipe]
    walk_at "rd"
    unfold tYes
    exact iteY rfl ⟨_, _, trx.1.choose_spec, _, _, trx, fun a2 zs H4 e4 _ h4 pm _ => ⟨_, .inl (sq_l h4), k2 rfl _ H4 e4 (by rw [List.length_map, pm.length_eq]; exact .int _)⟩⟩
  · intro v H3 e3 hv
    rw [List.filter_eq_self.mpr (fun _ _ => rfl)] at hv
    have hv2 : Rp H3 (New H') v (.list (((List.range (us ++ [V.ref T']).length).map fun j => (((t0S n s).run (os.take j)).kept.length : Int)).map PyData.int)) := by rw [List.map_map]; exact hv
    obtain ⟨M, rfl, _, hM⟩ := hv2.ints
    refine ⟨M, rfl, _, sq_l hM, by rw [List.length_map, List.length_range, lu2]; omega, fun m hm mx => q2 H3 m (e.trans e3) ?_ fun j hj => ?_⟩
    · obtain ⟨j, hj, rfl⟩ := List.mem_map.mp hm
      rw [List.mem_range, lu2] at hj
      exact ⟨j, by omega, rfl⟩
    · exact mx _ (List.mem_map.mpr ⟨j, by rw [List.mem_range, lu2]; omega, rfl⟩)
theorem tFor_zip {K : PySem.W.Frag} {ta : TA} {g : TG} {tb : TS} {D : Ends} {σ : L2.St} {H : Hp} : tFor (iZip K ta) g tb D σ H = ta σ H fun us H1 => ∃ a b xs ys, us = [.ref a, .ref b] ∧ SqL K H1 a xs ∧ SqL K H1 b ys ∧ ForJ (Itz K a b) g tb D σ H1 := rfl
theorem forZ_in {K : PySem.W.Frag} {a b : Addr} {g : TG} {tb : TS} {D : Ends} {σ : L2.St} {H : Hp} {xs ys : List V} (n : Nat) (hn : n = min xs.length ys.length) (Pv : Nat → L2.St → Hp → Prop) (h0 : Pv 0 σ H) (hl : ∀ i σ' H', i ≤ n → Pv i σ' H' → SqL K H' a xs ∧ SqL K H' b ys) (hd : ∀ σ H, Pv n σ H → D.nx σ H)
    (hs : ∀ (i : Nat) x y T σ H, xs[i]? = some x → ys[i]? = some y → Pv i σ H → H T = none → g (.ref T) σ (upd H T (.tup [x, y])) fun σ2 H2 => tb { D with nx := Pv (i + 1), ct := Pv (i + 1), bk := D.nx } σ2 H2) : ForJ (Itz K a b) g tb D σ H := by
  refine for_it (walk_zip hn) Pv h0 hl ?_ hd
  rintro i x σ H H' hi p ⟨T, x1, y1, rfl, hT, rfl, h1, h2⟩
  exact hs i x1 y1 T σ H h1 h2 p hT
/-- how many goes of a list do a step -/
def TSt.cnt (x : Int) : TSt → List Op → Int
  | _, [] => 0
  | t, o :: os => (match o with | .go k => if t.hand ≤ x ∧ x < t.hand + k then 1 else 0 | _ => 0) + TSt.cnt x (t.did o) os
def sp_times_in (K : PySem.W.Frag) : Sp := sp4 fun x y z u H Q E => ∃ i : Int, u = .int i ∧ 0 ≤ i ∧ Can H x y z fun n s os => i < n - 1 ∧ ∀ H', Ex H H' → Q (.int ((t0S n s).cnt i os)) H'
theorem sc_times_in : FnScope ["length", "slots", "operations", "step", "traces", "found", "trace", "operation"] ["length", "slots", "operations", "step"] (defScope s_times_in) := ⟨rfl, rfl, rfl, by decide +kernel, rfl, by decide +kernel, by decide +kernel⟩
theorem ok_times_in (T : Txt P w K mg base) : FnOk P w K mg base (L2.CX P w) 7 T.a_times_in T.fd_times_in ["length", "slots", "operations", "step"] (sp_times_in K) := by
  refine FunD.ok T.F_times_in sc_times_in (fun vs H Q E h => ar4 h) (fun cdv A fr s H vs Q E hr h => ⟨_, (Evl.pss_cut (ps_expr (pe_call (ok_require_list T) (hr.mono (by decide)) (by rfl) T.g_require_list T.F_require_list.kp T.b_require_list .nil passL (pa_cons (pv 0) (pa_cons (pv 1) (pa_cons (pv 2) pa_nil))))) (pss_cons (ps_if (pt_not (pt_val (pe_call (ok_is_whole T) (hr.mono (by decide)) (by rfl) T.g_is_whole T.F_is_whole.kp T.b_is_whole .nil passL (pa_cons (pv 3) (pa_cons pe_int (pa_cons (pe_op op_sub (pv 0) pe_int) pa_nil)))))) (pss_one (ps_raise rfl (takes_of rfl rfl rfl rfl) (pmk_own PySem.F.excBase_ValueError (T.er.tx 11 (by decide) (by decide)) (T.er.gl 11 (by decide)) (T.er.kp 11 (by decide)) (raises_own (T.er.xc 11 (by decide)).hs (T.er.ty 11 (by decide))) (by rfl)))) pss_nil) (Evl.pss_cut (ps_par (i := 4) (j := 5) (by rfl) sc_times_in.nd rfl rfl (by decide) rfl rfl (pa_cons (pe_call (ok_traces_of T) hr (by rfl) T.g_traces_of T.F_traces_of.kp T.b_traces_of .nil passE (pa_cons (pv 0) (pa_cons (pv 1) (pa_cons (pv 2) pa_nil)))) (pa_cons pe_int pa_nil)) (by rfl)) (pss_cons (ps_for (passes_of rfl) rfl (pi_zip (by rfl) T.n_zip (pa_cons (pv 4) (pa_cons (pv 2) pa_nil))) (pg_tupT (n := 2) rfl (pgs_cons (pg_name (i := 6) sc_times_in.nd rfl (.inl rfl)) (pgs_cons (pg_name (i := 7) sc_times_in.nd rfl (.inl rfl)) pgs_nil))) (pss_one (ps_if (PW.pt (pw_and (pt_cmpR op_eq (pe_ix ix_tupT (pv 7) pe_int (fun _ _ => rfl)) pe_str (nomark _)) (pw_and1 (pt_chain op_le op_lt (pe_prop (pv 6) T.c_Trace T.p_Trace_hand (ok_Trace_hand T) (hr.mono (by decide)) T.b_Trace_hand .nil passL rfl) (pv 3) (pe_op op_add (pe_prop (pv 6) T.c_Trace T.p_Trace_hand (ok_Trace_hand T) (hr.mono (by decide)) T.b_Trace_hand .nil passL rfl) (pe_ix ix_tupT (pv 7) pe_int (fun _ _ => rfl))))))) (pss_one (ps_aug (i := 5) sc_times_in.nd rfl (.inl rfl) pe_int ip_add)) pss_nil))) (pss_one (ps_ret (pv 5))))))), ?_⟩)
  obtain ⟨_, _, _, _, rfl, i, rfl, i0, n, s, a, os, rfl, rfl, rfl, ol, n1, n2, s1, s2, ok, i1, q2⟩ := h
  refine Evl.q_cut (M := fun σ' H' => σ' = [some (.int n), some (.int s), some (.ref a), some (.int i), none, none, none, none] ∧ Ex H H') ?_ ?_
  · unfold sp_require_list
    walk_at "rd"
    exact ⟨os, ol, n1, by omega, s1, s2, fun H' e => e⟩
  rintro σ H1 ⟨rfl, e1⟩
  unfold sp_is_whole
  walk_at "rd"
  refine ⟨some i, rfl, ?_⟩
  rw [show whole (some i) 0 (n - 2) = true from decide_eq_true ⟨i0, by omega⟩]
  refine iteNo (by decide) ?_
  refine Evl.q_cut (M := fun σ' H' => ∃ F us T', σ' = [some (.int n), some (.int s), some (.ref a), some (.int i), some (.ref F), some (.int 0), none, none] ∧ Ex H1 H' ∧ H' F = some (.lst (us ++ [.ref T'])) ∧ us.length = os.length ∧ TrAll K n s F H' (us ++ [.ref T']) os) ?_ ?_
  · unfold sp_traces_of
    walk_at "rd"
    exact ⟨n, s, a, os, rfl, rfl, rfl, ol.ex e1, n1, n2, s1, s2, ok, fun H2 F us T' KL' e2 hF lu tr tra => ⟨e2, us, T', hF, lu, tra⟩⟩
  rintro σ H2 ⟨F, us, T', rfl, e2, hF, lu, tra⟩
  unfold sp_Trace_hand
  walk_at "rd"
  simp only [tFor_zip]
  walk_at "rd"
  obtain ⟨ls, ha, rl, nm, lo⟩ := ol
  have ll : ls.length = os.length := by rw [rl.len, List.length_map]
  refine ⟨_, sq_l hF, _, sq_l (e2 _ _ (e1 _ _ ha)), forZ_in (xs := us ++ [.ref T']) (ys := ls) os.length (by rw [List.length_append, lu, ll, List.length_cons, List.length_nil]; omega) (fun j σ' H' => ∃ c x y, σ' = [some (.int n), some (.int s), some (.ref a), some (.int i), some (.ref F), some (.int c), x, y] ∧ Ex H2 H' ∧ c + ((t0S n s).run (os.take j)).cnt i (os.drop j) = (t0S n s).cnt i os) ⟨0, none, none, rfl, .refl _, by rw [List.take_zero, List.drop_zero]; show 0 + (t0S n s).cnt i os = _; omega⟩ ?_ ?_ ?_⟩
  · rintro j σ' H' _ ⟨c, x, y, rfl, e, _⟩
    exact ⟨sq_l (e _ _ hF), sq_l (e _ _ (e2 _ _ (e1 _ _ ha)))⟩
  · rintro σ' H' ⟨c, x, y, rfl, e, pq⟩
    walk_at "rd"
    rw [List.drop_length] at pq
    have pq2 : c + 0 = (t0S n s).cnt i os := pq
    have := q2 H' ((e1.trans e2).trans e)
    rw [← pq2, Int.add_zero] at this
    exact this
  rintro j x1 x2 T0 σ' H' hx1 hx2 ⟨c, x, y, rfl, e, pq⟩ hT0
  obtain ⟨o, b, hoi, rfl, hb⟩ := OpL.at_ rl hx2
  obtain ⟨Tj, Kj, hTj, _, _, trj⟩ := tra j (List.getElem?_eq_some_iff.mp hx1).1
  have : x1 = .ref Tj := by rw [hTj] at hx1; exact (Option.some.inj hx1).symm
  subst this
  have hi := (List.getElem?_eq_some_iff.mp hoi).1
  have eT := e.trans (exn (o := .tup [.ref Tj, .ref b]) hT0)
  have pq2 : c + ((t0S n s).run (os.take j)).cnt i (o :: os.drop (j + 1)) = (t0S n s).cnt i os := by
    rw [← pq]
    congr 2
    rw [List.drop_eq_getElem_cons hi, (List.getElem?_eq_some_iff.mp hoi).2]
  have hTu := upd_same (H := H') (a := T0) (o := .tup [.ref Tj, .ref b])
  have hbx := eT _ _ (e2 _ _ (e1 _ _ hb))
  have trx : Tr K (upd H' T0 (.tup [.ref Tj, .ref b])) Tj Kj ((t0S n s).run (os.take j)) := ⟨⟨_, eT _ _ trj.1.choose_spec⟩, eT _ _ trj.2.1, trj.2.2⟩
  generalize upd H' T0 (.tup [.ref Tj, .ref b]) = Hx at *
  generalize ht : (t0S n s).run (os.take j) = t at *
  have rs : (t0S n s).run (os.take (j + 1)) = t.did o := by rw [run_succ hoi, ht]
  walk_at "rd"
  rw [rs]
  have T9 := trx.1.choose_spec
  have no : (match o with | .go k => False | _ => True) → Ex H2 Hx ∧ c + TSt.cnt i (t.did o) (List.drop (j + 1) os) = TSt.cnt i (t0S n s) os := fun h => by
    refine ⟨eT, ?_⟩
    rw [← pq2]
    cases o with
    | go k => exact h.elim
    | _ => show c + _ = c + (0 + _); rw [Int.zero_add]
  refine ⟨_, hTu, rfl, _, _, rfl, _, _, rfl, rfl, b, rfl, _, hbx, ?_⟩
  cases o with
  | go k =>
    have pq3 : c + ((if t.hand ≤ i ∧ i < t.hand + k then 1 else 0) + TSt.cnt i (t.did (.go k)) (List.drop (j + 1) os)) = TSt.cnt i (t0S n s) os := pq2
    have no2 : ¬ (t.hand ≤ i ∧ i < t.hand + k) → Ex H2 Hx ∧ c + TSt.cnt i (t.did (.go k)) (List.drop (j + 1) os) = TSt.cnt i (t0S n s) os := fun h => ⟨eT, by rw [← pq3, if_neg h, Int.zero_add]⟩
    refine ⟨_, atI_0, rfl, iteY rfl ⟨_, rfl, _, _, T9, _, _, trx, ite2 (fun h1 => ?_) fun h1 => no2 fun h => h1 h.1⟩⟩
    exact ⟨_, rfl, _, _, T9, _, _, trx, b, rfl, _, hbx, _, atI_1, k, rfl, ite2 (fun h2 => ⟨eT, by rw [← pq3, if_pos ⟨h1, h2⟩]; omega⟩) fun h2 => no2 fun h => h2 h.2⟩
  | _ => exact ⟨_, atI_0, rfl, iteNo (fun z => by cases z) (no trivial)⟩
theorem plan_run {n s : Int} (hn : 1 ≤ n) (hs : 1 ≤ s) : ((t0S n s).run (opsL n s 0)).steps = tz n s ∧ ((t0S n s).run (opsL n s 0)).backs = n := by
  rw [run_plan n s hn hs 0 (t0S n s) rfl (fun k hk => by rw [List.mem_singleton.mp hk]; exact Int.le_refl _)]
  exact ⟨by show 0 + tz n s = _; omega, by show 0 + n = n; omega⟩
theorem plan_ok {n s : Int} (hn : 1 ≤ n) (hs : 1 ≤ s) : (t0S n s).ok (opsL n s 0) :=
  ok_plan n s hn hs 0 (t0S n s) (Int.le_refl _) rfl (.inr (List.mem_singleton.mpr rfl)) (fun k hk => by rw [List.mem_singleton.mp hk]; exact Int.le_refl _) (by show ((1 : Nat) : Int) + (s - 1) ≤ s; omega) (Int.le_refl _) (by show n = 0 + n + 0; omega)
/-! what plans keep ascends -/
def TSt.up (t : TSt) : Op → Prop
  | .go k => 1 ≤ k
  | .keep => ∀ k ∈ t.kept, k < t.hand
  | _ => True
def TSt.ups : TSt → List Op → Prop
  | _, [] => True
  | t, o :: os => t.up o ∧ TSt.ups (t.did o) os
theorem ups_app : ∀ (a b : List Op) (t : TSt), t.ups (a ++ b) ↔ t.ups a ∧ (t.run a).ups b
  | [], _, _ => ⟨fun h => ⟨trivial, h⟩, fun h => h.2⟩
  | o :: a, b, t => by
    show (_ ∧ TSt.ups (t.did o) (a ++ b)) ↔ ((_ ∧ TSt.ups (t.did o) a) ∧ _)
    rw [ups_app a b (t.did o), and_assoc]
    exact Iff.rfl
theorem ups_row (n b : Int) : ∀ (k : Nat) (t : TSt), t.ups (rowL n b k)
  | 0, t => ⟨trivial, trivial⟩
  | k + 1, t => ⟨by show 1 ≤ ((k + 1 : Nat) : Int); omega, trivial, trivial, ups_row n b k _⟩
theorem ups_plan : ∀ n s : Int, 1 ≤ n → 1 ≤ s → ∀ (b : Int) (t : TSt), t.hand = b → (∀ k ∈ t.kept, k ≤ b) → t.ups (opsL n s b) := by
  refine plan_ind (fun n s hn hs h b t ht hk => ?_) fun n s hn hs ih1 ih2 b t ht hk => ?_
  · rw [opsL_row h]
    exact ups_row n b _ t
  · obtain ⟨l1, l2, l3⟩ := loz_range hn hs
    rw [opsL_two hn hs]
    have t1h : (t.did (.go (hiz n s))).hand = b + hiz n s := by show t.hand + hiz n s = _; rw [ht]
    refine ⟨by show 1 ≤ hiz n s; omega, ?_⟩
    rw [ups_app, ups_app, ups_app]
    rcases kp_01 n s with k | k
    · have k' : ¬ kp n s = 1 := by omega
      rw [if_neg k', if_neg k']
      have k1 : ∀ k ∈ (t.did (.go (hiz n s))).kept, k ≤ b + hiz n s := fun k hk' => by have := hk k hk'; omega
      have r1 := run_plan (n - hiz n s) (s - 1) (by omega) (by omega) (b + hiz n s) (t.did (.go (hiz n s))) t1h k1
      refine ⟨⟨⟨trivial, ih1 _ _ t1h k1⟩, trivial⟩, trivial, ?_⟩
      rw [List.nil_append, List.append_nil, r1]
      exact ih2 b _ rfl hk
    · rw [if_pos k, if_pos k]
      have nk : b + hiz n s ∉ t.kept := fun z => by have := hk _ z; omega
      have c1 : ∀ k ∈ ((t.did (.go (hiz n s))).did .keep).kept, k ≤ b + hiz n s := fun k hk' => by
        have hk2 : k ∈ t.kept ++ [t.hand + hiz n s] := hk'
        rcases List.mem_append.mp hk2 with h | h
        · have := hk k h; omega
        · rw [List.mem_singleton.mp h, ht]; omega
      have r1 := run_plan (n - hiz n s) (s - 1) (by omega) (by omega) (b + hiz n s) ((t.did (.go (hiz n s))).did .keep) t1h c1
      refine ⟨⟨⟨⟨fun k hk' => ?_, trivial⟩, ih1 _ _ t1h c1⟩, trivial, trivial⟩, trivial, ?_⟩
      · have hk2 : k ∈ t.kept := hk'
        show k < t.hand + hiz n s
        have := hk k hk2
        omega
      · rw [run_app, run_app]
        show TSt.ups (((((t.did (.go (hiz n s))).did .keep).run (opsL (n - hiz n s) (s - 1) (b + hiz n s))).did (.free (b + hiz n s))).did (.take b)) (opsL (hiz n s) s b)
        rw [r1]
        have ek : ((((t.did (.go (hiz n s))).did .keep).past (b + hiz n s) (n - hiz n s) (s - 1)).did (.free (b + hiz n s))).kept = t.kept := by
          show (t.kept ++ [t.hand + hiz n s]).erase (b + hiz n s) = t.kept
          rw [ht]
          exact erase_last nk
        refine ih2 b _ rfl (fun k hk' => ?_)
        have hk2 : k ∈ ((((t.did (.go (hiz n s))).did .keep).past (b + hiz n s) (n - hiz n s) (s - 1)).did (.free (b + hiz n s))).kept := hk'
        rw [ek] at hk2
        exact hk k hk2
/-- ascending, each state one of the first n -/
def TSt.asc (t : TSt) : Prop := t.kept.Pairwise (· < ·)
theorem asc_did {t : TSt} {o : Op} (h : t.asc) (u : t.up o) : (t.did o).asc := by
  cases o with
  | keep =>
    show (t.kept ++ [t.hand]).Pairwise (· < ·)
    rw [List.pairwise_append]
    exact ⟨h, List.pairwise_singleton .., fun a ha b hb => by rw [List.mem_singleton.mp hb]; exact u a ha⟩
  | free m => exact h.sublist (List.erase_sublist ..)
  | go k => exact h
  | take m => exact h
  | back => exact h
theorem asc_nodup {t : TSt} (h : t.asc) : t.kept.Nodup := h.imp fun h e => by omega
/-- step by step -/
theorem ups_at : ∀ {os : List Op} {t : TSt} {i : Nat} {o : Op}, t.ups os → os[i]? = some o → (t.run (os.take i)).up o
  | [], t, i, o, _, h => by simp at h
  | a :: os, t, 0, o, k, h => by simp at h; subst h; exact k.1
  | a :: os, t, i + 1, o, k, h => by simp at h; exact ups_at (os := os) k.2 h
/-! where the backs are -/
def backsP : List Op → Int → List Int
  | [], _ => []
  | .back :: r, c => c :: backsP r (c + 1)
  | _ :: r, c => backsP r (c + 1)
theorem backsP_app : ∀ (l r : List Op) (c : Int), backsP (l ++ r) c = backsP l c ++ backsP r (c + l.length)
  | [], r, c => by show backsP r c = [] ++ backsP r (c + 0); rw [Int.add_zero]; rfl
  | o :: l, r, c => by
    have e : c + ((o :: l).length : Int) = c + 1 + (l.length : Int) := by rw [List.length_cons]; omega
    rw [e]
    cases o with
    | back => exact congrArg _ (backsP_app l r (c + 1))
    | go k => exact backsP_app l r (c + 1)
    | take m => exact backsP_app l r (c + 1)
    | keep => exact backsP_app l r (c + 1)
    | free m => exact backsP_app l r (c + 1)
theorem range_add_map {α : Type} (a b : Nat) (f : Nat → α) : (List.range (a + b)).map f = (List.range a).map f ++ (List.range b).map fun i => f (a + i) := by
  induction b with
  | zero => simp
  | succ b ih => rw [← Nat.add_assoc, List.range_succ, List.map_append, ih, List.range_succ, List.map_append, List.append_assoc]; rfl
theorem backs_row (n b : Int) : ∀ (k : Nat) (c : Int), backsP (rowL n b k) c = (List.range (k + 1)).map fun (j : Nat) => c + 3 * (j : Int) + if j < k then 1 else 0
  | 0, c => by
    show [c] = [c + 3 * ((0 : Nat) : Int) + if 0 < 0 then 1 else 0]
    rw [if_neg (by decide)]
    congr 1
    omega
  | k + 1, c => by
    show (c + 1) :: backsP (rowL n b k) (c + 1 + 1 + 1) = _
    rw [backs_row n b k, List.range_succ_eq_map (n := k + 1), List.map_cons, List.map_map]
    congr 1
    · rw [if_pos (by omega)]; omega
    · refine List.map_congr_left fun j _ => ?_
      show c + 1 + 1 + 1 + 3 * (j : Int) + (if j < k then 1 else 0) = c + 3 * ((j + 1 : Nat) : Int) + if j + 1 < k + 1 then 1 else 0
      by_cases h : j < k
      · rw [if_pos h, if_pos (by omega)]; omega
      · rw [if_neg h, if_neg (by omega)]; omega
theorem backs_plan : ∀ n s : Int, 1 ≤ n → 1 ≤ s → ∀ b c, backsP (opsL n s b) c = (List.range n.toNat).map fun (j : Nat) => c + backAt n s (n - 1 - (j : Int)) := by
  refine plan_ind (fun n s hn hs h b c => ?_) fun n s hn hs ih1 ih2 b c => ?_
  · rw [opsL_row h, backs_row, show (n - 1).toNat + 1 = n.toNat by omega]
    refine List.map_congr_left fun j hj => ?_
    have hj := List.mem_range.mp hj
    rw [backAt_row h, show n - 1 - (n - 1 - (j : Int)) = (j : Int) by omega]
    by_cases h : j < (n - 1).toNat
    · rw [if_pos h, if_pos (by omega)]; omega
    · rw [if_neg h, if_neg (by omega)]; omega
  · obtain ⟨l1, l2, l3⟩ := loz_range hn hs
    have len := opsL_len (n - hiz n s) (s - 1) (by omega) (by omega) (b + hiz n s)
    have e : n.toNat = (n - hiz n s).toNat + (hiz n s).toNat := by omega
    rw [e, range_add_map, opsL_two hn hs]
    have p1 : ∀ c', ((List.range (n - hiz n s).toNat).map fun (j : Nat) => c' + backAt (n - hiz n s) (s - 1) (n - hiz n s - 1 - (j : Int))) = (List.range (n - hiz n s).toNat).map fun (j : Nat) => c' - (1 + kp n s) + backAt n s (n - 1 - (j : Int)) := fun c' => by
      refine List.map_congr_left fun j hj => ?_
      have hj := List.mem_range.mp hj
      rw [backAt_two hn hs, if_pos (by omega), show n - 1 - (j : Int) - hiz n s = n - hiz n s - 1 - (j : Int) by omega]
      omega
    have p2 : ∀ c', ((List.range (hiz n s).toNat).map fun (j : Nat) => c' + backAt (hiz n s) s (hiz n s - 1 - (j : Int))) = (List.range (hiz n s).toNat).map fun (j : Nat) => c' - (2 + 2 * kp n s + opsN (n - hiz n s) (s - 1)) + backAt n s (n - 1 - (((n - hiz n s).toNat + j : Nat) : Int)) := fun c' => by
      refine List.map_congr_left fun j hj => ?_
      have hj := List.mem_range.mp hj
      rw [backAt_two hn hs, if_neg (by omega), show n - 1 - (((n - hiz n s).toNat + j : Nat) : Int) = hiz n s - 1 - (j : Int) by omega]
      omega
    show backsP (_ ++ _) (c + 1) = _
    rw [backsP_app, backsP_app, backsP_app]
    rcases kp_01 n s with k | k
    · have k' : ¬ kp n s = 1 := by omega
      rw [if_neg k', if_neg k', List.nil_append]
      show ([] ++ backsP (opsL (n - hiz n s) (s - 1) (b + hiz n s)) (c + 1 + 0)) ++ [] ++ backsP (opsL (hiz n s) s b) (_ + 1) = _
      rw [List.nil_append, List.append_nil, ih1, ih2, p1, p2, List.append_nil]
      congr 1
      · refine List.map_congr_left fun j _ => ?_
        omega
      · refine List.map_congr_left fun j _ => ?_
        omega
    · rw [if_pos k, if_pos k]
      show ([] ++ backsP (opsL (n - hiz n s) (s - 1) (b + hiz n s)) (c + 1 + 1)) ++ [] ++ backsP (opsL (hiz n s) s b) (_ + 1) = _
      rw [List.nil_append, List.append_nil, ih1, ih2, p1, p2]
      congr 1
      · refine List.map_congr_left fun j _ => ?_
        omega
      · refine List.map_congr_left fun j _ => ?_
        simp only [List.length_append, List.length_cons, List.length_nil]
        omega
theorem plan_opOk {n s : Int} (hn : 1 ≤ n) (hn2 : n ≤ 10 ^ 30) (hs : 1 ≤ s) : ∀ o ∈ opsL n s 0, opOk o := fun o ho => by
  have h1 := opsL_num n s hn hs 0 (Int.le_refl _) o ho
  have h2 := ups_plan n s hn hs 0 (t0S n s) rfl (fun k hk => by rw [List.mem_singleton.mp hk]; decide)
  obtain ⟨i, hi⟩ := List.mem_iff_getElem?.mp ho
  have h3 := ups_at h2 hi
  cases o with
  | go k => exact ⟨h3, by have : k ≤ 0 + n := h1.2; omega⟩
  | take k => have : 0 ≤ k ∧ k ≤ 0 + n := h1; exact ⟨this.1, by omega⟩
  | free k => have : 0 ≤ k ∧ k ≤ 0 + n := h1; exact ⟨this.1, by omega⟩
  | keep => trivial
  | back => trivial
theorem plan_opl {H : Hp} {S : Addr → Prop} {v : V} {n s : Int} (hn : 1 ≤ n) (hn2 : n ≤ 10 ^ 30) (hs : 1 ≤ s) (hl : opsN n s ≤ 400) (h : Rp H S v (.list ((opsL n s 0).map opD))) : ∃ a, v = .ref a ∧ OpL H a (opsL n s 0) := by
  cases h with
  | lst m e a => exact ⟨_, rfl, _, e, a.sub fun _ _ => trivial, plan_opOk hn hn2 hs, by have := opsL_len n s hn hs 0; omega⟩
/-! ### drawn whole lists -/
def sp6 (F : V → V → V → V → V → V → Hp → VK → XK → Prop) : Sp := fun vs H Q E => ∃ a b c d e g, vs = [a, b, c, d, e, g] ∧ F a b c d e g H Q E
theorem ar6 {F vs H Q E} (h : sp6 F vs H Q E) : vs.length = 6 := by obtain ⟨_, _, _, _, _, _, rfl, _⟩ := h; rfl
theorem per_app : ∀ (a b : List Op) (t : TSt), t.per (a ++ b) ↔ t.per a ∧ (t.run a).per b
  | [], _, _ => ⟨fun h => ⟨trivial, h⟩, fun h => h.2⟩
  | o :: a, b, t => by
    show (_ ∧ TSt.per (t.did o) (a ++ b)) ↔ ((_ ∧ TSt.per (t.did o) a) ∧ _)
    rw [per_app a b (t.did o), and_assoc]
    exact Iff.rfl
structure BegI (H : Hp) (t : TSt) (r A B : Addr) (os : List Op) (vs : List V) (m : Int) (H' : Hp) : Prop where
  mo : Mo r H H'
  reel : Reel H' r (m + 5 + 2 * (t.run os).hand)
  hA : H' A = some (.lst vs)
  rA : RpA H' (fun b => New H b ∧ b ≠ A ∧ b ≠ B) vs (os.map opD)
  hB : H' B = some (.lst ((t.run os).kept.map V.int))
  lo : (os.length : Int) ≤ 2 + 2 * (t.run os).hand
  ok : t.ok os
  pe : t.per os
  oo : ∀ o ∈ os, opOk o
  eb : (t.run os).backs = t.backs
  h0 : 0 ≤ (t.run os).hand
  h1 : (t.run os).hand ≤ t.n - 1 - t.backs
  kl : ((t.run os).kept.length : Int) ≤ t.s
theorem run_snoc {t : TSt} {os : List Op} {o : Op} : t.run (os ++ [o]) = (t.run os).did o := by rw [run_app]; rfl
theorem BegI.go {H H6 H7 : Hp} {t : TSt} {r A B p : Addr} {os : List Op} {vs : List V} {m z m0 : Int} (b : BegI H t r A B os vs m H6) (nA : H A = none) (nB : H B = none) (nAB : A ≠ B) (hR : Reel H r m0) (b0 : 0 ≤ t.backs) (tn : t.n ≤ 10)
    (o : Mo r H6 H7) (R : Reel H7 r (m + 5 + 2 * (t.run os).hand + 1)) (hp : H7 p = none) (z0 : 0 ≤ z) (z1 : z < t.n - 1 - t.backs - (t.run os).hand) :
    BegI H t r A B (os ++ [.go (1 + z)]) (vs ++ [.ref p]) m (upd (upd H7 p (.tup [.str "go", .int (1 + z)])) A (.lst (vs ++ [.ref p]))) ∧ ((os ++ [Op.go (1 + z)]).length : Int) + 1 ≤ 2 + 2 * (t.run (os ++ [.go (1 + z)])).hand := by
  have nAr := hR.ne nA
  have nBr := hR.ne nB
  have hA7 := o A _ nAr b.hA
  have hB7 := o B _ nBr b.hB
  have npA : p ≠ A := fun z => by rw [z, hA7] at hp; cases hp
  have npB : p ≠ B := fun z => by rw [z, hB7] at hp; cases hp
  have npr := R.ne hp
  have p0 : H p = none := mo_none (b.mo.trans o) R hp
  have hh : (t.run (os ++ [.go (1 + z)])).hand = (t.run os).hand + (1 + z) := by rw [run_snoc]; rfl
  have hk : (t.run (os ++ [.go (1 + z)])).kept = (t.run os).kept := by rw [run_snoc]; rfl
  have hl : ((os ++ [Op.go (1 + z)]).length : Int) = os.length + 1 := by rw [List.length_append, List.length_cons, List.length_nil]; omega
  have lo := b.lo
  refine ⟨⟨fun c w nc hc => ?_, ?_, upd_same, ?_, ?_, by rw [hh]; omega, (ok_app os _ t).mpr ⟨b.ok, ?_, trivial⟩, (per_app os _ t).mpr ⟨b.pe, (show 0 ≤ 1 + z by omega), trivial⟩, fun x hx => ?_, by rw [run_snoc]; exact b.eb, by rw [hh]; have := b.h0; omega, by rw [hh]; omega, by rw [hk]; exact b.kl⟩, by rw [hh]; omega⟩
  · rw [upd_ne (fun z => by rw [z, nA] at hc; cases hc), upd_ne (fun z => by rw [z, p0] at hc; cases hc)]
    exact o c w nc (b.mo c w nc hc)
  · rw [hh]
    refine (R.up (m' := m + 5 + 2 * ((t.run os).hand + (1 + z))) (by omega)).keep fun w hw => ?_
    rw [upd_ne (Ne.symm nAr), upd_ne (Ne.symm npr)]
    exact hw
  · rw [List.map_append]
    refine RpA.app (b.rA.keep (fun b w h1 h2 => ?_) fun _ h => h) (.cons (op_rp ⟨p0, npA, npB⟩ ?_) .nil)
    · have h3 := o b w (hR.ne h1.1) h2
      rw [upd_ne h1.2.1, upd_ne (fun z => by rw [z, hp] at h3; cases h3)]
      exact h3
    · rw [upd_ne npA, upd_same]
      rfl
  · rw [upd_ne (Ne.symm nAB), upd_ne (Ne.symm npB), hk]
    exact hB7
  · have rn := run_n (os := os) (t := t)
    exact decide_eq_true (by rw [rn.1]; omega)
  · rcases List.mem_append.mp hx with hx | hx
    · exact b.oo x hx
    · rw [List.mem_singleton.mp hx]
      exact ⟨by omega, by have := b.h0; omega⟩
theorem BegI.kp {H H6 H7 : Hp} {t : TSt} {r A B p : Addr} {os : List Op} {vs : List V} {m m0 : Int} (b : BegI H t r A B os vs m H6) (nA : H A = none) (nB : H B = none) (nAB : A ≠ B) (hR : Reel H r m0)
    (lo : (os.length : Int) + 1 ≤ 2 + 2 * (t.run os).hand) (o : Mo r H6 H7) (R : Reel H7 r (m + 5 + 2 * (t.run os).hand)) (hp : upd H7 B (.lst ((t.run os).kept.map V.int ++ [.int (t.run os).hand])) p = none) (c1 : (t.run os).hand ∉ (t.run os).kept) (c2 : ((t.run os).kept.length : Int) < t.s) :
    BegI H t r A B (os ++ [.keep]) (vs ++ [.ref p]) m (upd (upd (upd H7 B (.lst ((t.run os).kept.map V.int ++ [.int (t.run os).hand]))) p (.tup [.str "keep"])) A (.lst (vs ++ [.ref p]))) := by
  have nAr := hR.ne nA
  have nBr := hR.ne nB
  have hA7 := o A _ nAr b.hA
  have hB7 := o B _ nBr b.hB
  have npB : p ≠ B := fun z => by rw [z, upd_same] at hp; cases hp
  have hp : H7 p = none := by rw [upd_ne npB] at hp; exact hp
  have npA : p ≠ A := fun z => by rw [z, hA7] at hp; cases hp
  have npr := R.ne hp
  have p0 : H p = none := mo_none (b.mo.trans o) R hp
  have hh : (t.run (os ++ [.keep])).hand = (t.run os).hand := by rw [run_snoc]; rfl
  have hk : (t.run (os ++ [.keep])).kept = (t.run os).kept ++ [(t.run os).hand] := by rw [run_snoc]; rfl
  have hl : ((os ++ [Op.keep]).length : Int) = os.length + 1 := by rw [List.length_append, List.length_cons, List.length_nil]; omega
  refine ⟨fun c w nc hc => ?_, ?_, upd_same, ?_, ?_, by rw [hh]; omega, (ok_app os _ t).mpr ⟨b.ok, ?_, trivial⟩, (per_app os _ t).mpr ⟨b.pe, trivial, trivial⟩, fun x hx => ?_, by rw [run_snoc]; exact b.eb, by rw [hh]; exact b.h0, by rw [hh]; exact b.h1, ?_⟩
  · rw [upd_ne (fun z => by rw [z, nA] at hc; cases hc), upd_ne (fun z => by rw [z, p0] at hc; cases hc), upd_ne (fun z => by rw [z, nB] at hc; cases hc)]
    exact o c w nc (b.mo c w nc hc)
  · rw [hh]
    refine R.keep fun w hw => ?_
    rw [upd_ne (Ne.symm nAr), upd_ne (Ne.symm npr), upd_ne (Ne.symm nBr)]
    exact hw
  · rw [List.map_append]
    refine RpA.app (b.rA.keep (fun b w h1 h2 => ?_) fun _ h => h) (.cons (op_rp ⟨p0, npA, npB⟩ ?_) .nil)
    · have h3 := o b w (hR.ne h1.1) h2
      rw [upd_ne h1.2.1, upd_ne (fun z => by rw [z, hp] at h3; cases h3), upd_ne h1.2.2]
      exact h3
    · rw [upd_ne npA, upd_same]
      rfl
  · rw [upd_ne (Ne.symm nAB), upd_ne (Ne.symm npB), upd_same, hk, List.map_append]
    rfl
  · have rn := run_n (os := os) (t := t)
    show (decide ((t.run os).hand ∉ (t.run os).kept) && decide (((t.run os).kept.length : Int) < (t.run os).s)) = true
    rw [rn.2, decide_eq_true c1, decide_eq_true c2]
    rfl
  · rcases List.mem_append.mp hx with hx | hx
    · exact b.oo x hx
    · rw [List.mem_singleton.mp hx]
      trivial
  · rw [hk, List.length_append, List.length_cons, List.length_nil]
    omega
def sp_L_begin (K : PySem.W.Frag) : Sp := sp6 fun x y z a b c H Q _ => ∃ (r F : Addr) (t : TSt) (m : Int), x = .ref r ∧ y = .int t.n ∧ z = .int t.s ∧ a = .int t.hand ∧ b = .ref F ∧ c = .int (t.n - 1 - t.backs) ∧ Reel H r m ∧ m ≤ 10 ^ 40 ∧ H F = some (.lst (t.kept.map V.int)) ∧ F ≠ r ∧
  1 ≤ t.n ∧ t.n ≤ 10 ∧ 1 ≤ t.s ∧ t.s ≤ 4 ∧ (t.kept.length : Int) ≤ t.s ∧ 0 ∈ t.kept ∧ (∀ k ∈ t.kept, 0 ≤ k ∧ k < t.n) ∧ 0 ≤ t.hand ∧ t.hand < t.n ∧ 0 ≤ t.backs ∧ t.backs < t.n ∧
  ∀ p A B vs os H', Mo r H H' → Reel H' r (m + 60) → H' p = some (.tup [.ref A, .int (t.n - 1 - t.backs), .ref B]) → H' A = some (.lst vs) → RpA H' (New H) vs (os.map opD) → H B = none → H' B = some (.lst ((t.run os).kept.map V.int)) →
    t.ok os → t.per os → (t.run os).hand = t.n - 1 - t.backs → (t.run os).backs = t.backs → (∀ o ∈ os, opOk o) → os.length ≤ 30 → Q (.ref p) H'
theorem sc_L_begin : FnScope ["_law_reel", "_law_n", "_law_s", "_law_hand", "_law_kept", "_law_wanted", "_law_below", "_law_told", "_law_number", "_law_state"] ["_law_reel", "_law_n", "_law_s", "_law_hand", "_law_kept", "_law_wanted"] (defScope s_L_begin) := ⟨rfl, rfl, rfl, by decide +kernel, rfl, by decide +kernel, by decide +kernel⟩
theorem ok_L_begin (T : Txt P w K mg base) : FnOk P w K mg base (L2.CX P w) 2 T.a_L_begin T.fd_L_begin ["_law_reel", "_law_n", "_law_s", "_law_hand", "_law_kept", "_law_wanted"] (sp_L_begin K) := by
  refine FunD.ok T.F_L_begin sc_L_begin (fun vs H Q E h => ar6 h) (fun cdv A fr s H vs Q E hr h => ⟨_, PSs.nox (Evl.pss_cut (ps_setLc (i := 6) (own := [("_law_state", 9)]) rfl sc_L_begin.nd rfl rfl (sw_true rfl rfl rfl (by decide +kernel)) (pi_list (pv 4)) (blkOk_by (N := ["_law_reel", "_law_n", "_law_s", "_law_hand", "_law_kept", "_law_wanted", "_law_below", "_law_told", "_law_number", "_law_state"]) (sc := defScope s_L_begin) (by decide +kernel)) (fun _ _ _ _ _ => (pg_name (i := 9) sc_L_begin.nd rfl (Or.inl rfl))) (fun _ _ _ _ _ => (pts_one (pt_cmpR op_le (pv 9) (pv 5) (nomark _)))) (fun _ _ _ _ _ => (pv 9))) (Evl.pss_cut (ps_set (i := 7) sc_L_begin.nd rfl (.inl rfl) (pe_lst pa_nil)) (Evl.pss_cut (ps_if (PW.pt (pw_or (pt_cmpR op_gt (pv 3) (pv 5) (nomark _)) (pw_or1 (PW.pt (pw_and (pt_cmpR (r := rIn K true) op_notIn_seq (pv 3) (pv 4) (by rfl)) (pw_and1 (pt_cmpR op_eq (pe_call (ok_L_spin T) hr (by rfl) T.g_L_spin T.F_L_spin.kp T.b_L_spin .nil passL (pa_cons (pv 0) (pa_cons pe_int pa_nil))) pe_int (nomark _)))))))) (pss_cons (ps_set (i := 3) sc_L_begin.nd rfl (.inl rfl) (pe_ix (r := rIxL K) ix_list (pe_lst (pa_cons (pe_callB (r := rMax K) (cr_max rfl) (by rfl) T.n_max (by decide +kernel) (pa_cons (pv 6) pa_nil)) (pa_cons (pe_ix (r := rIxL K) ix_list (pv 6) (pe_call (ok_L_spin T) hr (by rfl) T.g_L_spin T.F_L_spin.kp T.b_L_spin .nil passL (pa_cons (pv 0) (pa_cons (pe_callB (r := rLenQ K) call_lenQ (by rfl) T.n_len (by decide +kernel) (pa_cons (pv 6) pa_nil)) pa_nil))) (fun _ _ => rfl)) pa_nil))) (pe_call (ok_L_spin T) hr (by rfl) T.g_L_spin T.F_L_spin.kp T.b_L_spin .nil passL (pa_cons (pv 0) (pa_cons pe_int pa_nil))) (fun _ _ => rfl))) (pss_one (ps_expr (pe_bm PySem.F.plainAttrs_list PySem.F.slot_list_append PySem.F.type_list_append mt_append (pv 7) (pa_cons (pe_tup (pa_cons pe_str (pa_cons (pv 3) pa_nil))) pa_nil))))) pss_nil) (Evl.pss_cut (ps_set (i := 4) sc_L_begin.nd rfl (.inl rfl) (pe_callTy call_list_of (by rfl) T.n_list (by decide +kernel) (pa_cons (pv 4) pa_nil))) (Evl.pss_cut (ps_if (PW.pt (pw_and (pt_cmpR (r := rIn K true) op_notIn_seq (pv 3) (pv 4) (by rfl)) (pw_and (pt_cmpR op_lt (pe_callB (r := rLenQ K) call_lenQ (by rfl) T.n_len (by decide +kernel) (pa_cons (pv 4) pa_nil)) (pv 2) (nomark _)) (pw_and1 (pt_cmpR op_eq (pe_call (ok_L_spin T) hr (by rfl) T.g_L_spin T.F_L_spin.kp T.b_L_spin .nil passL (pa_cons (pv 0) (pa_cons pe_int pa_nil))) pe_int (nomark _)))))) (pss_cons (ps_expr (pe_bm PySem.F.plainAttrs_list PySem.F.slot_list_append PySem.F.type_list_append mt_append (pv 4) (pa_cons (pv 3) pa_nil))) (pss_one (ps_expr (pe_bm PySem.F.plainAttrs_list PySem.F.slot_list_append PySem.F.type_list_append mt_append (pv 7) (pa_cons (pe_tup (pa_cons pe_str pa_nil)) pa_nil))))) pss_nil) (Evl.pss_cut (ps_while PassesOwn.never (pt_cmpR op_lt (pv 3) (pv 5) (nomark _)) (pss_cons (ps_set (i := 8) sc_L_begin.nd rfl (.inl rfl) (pe_op op_add pe_int (pe_call (ok_L_spin T) hr (by rfl) T.g_L_spin T.F_L_spin.kp T.b_L_spin .nil passL (pa_cons (pv 0) (pa_cons (pe_op op_sub (pv 5) (pv 3)) pa_nil))))) (pss_cons (ps_set (i := 3) sc_L_begin.nd rfl (.inl rfl) (pe_op op_add (pv 3) (pv 8))) (pss_cons (ps_expr (pe_bm PySem.F.plainAttrs_list PySem.F.slot_list_append PySem.F.type_list_append mt_append (pv 7) (pa_cons (pe_tup (pa_cons pe_str (pa_cons (pv 8) pa_nil))) pa_nil))) (pss_one (ps_if (PW.pt (pw_and (pt_cmpR op_lt (pe_callB (r := rLenQ K) call_lenQ (by rfl) T.n_len (by decide +kernel) (pa_cons (pv 4) pa_nil)) (pv 2) (nomark _)) (pw_and (pt_cmpR (r := rIn K true) op_notIn_seq (pv 3) (pv 4) (by rfl)) (pw_and1 (pt_cmpR op_gt (pe_call (ok_L_spin T) hr (by rfl) T.g_L_spin T.F_L_spin.kp T.b_L_spin .nil passL (pa_cons (pv 0) (pa_cons pe_int pa_nil))) pe_int (nomark _)))))) (pss_cons (ps_expr (pe_bm PySem.F.plainAttrs_list PySem.F.slot_list_append PySem.F.type_list_append mt_append (pv 4) (pa_cons (pv 3) pa_nil))) (pss_one (ps_expr (pe_bm PySem.F.plainAttrs_list PySem.F.slot_list_append PySem.F.type_list_append mt_append (pv 7) (pa_cons (pe_tup (pa_cons pe_str pa_nil)) pa_nil))))) pss_nil)))))) (pss_one (ps_ret (pe_tup (pa_cons (pv 7) (pa_cons (pv 3) (pa_cons (pv 4) pa_nil)))))))))))), ?_⟩)
  obtain ⟨_, _, _, _, _, _, rfl, r, F, t, m, rfl, rfl, rfl, rfl, rfl, rfl, hR, hm, hF, nF, n1, n2, s1, s2, kl, z0, kb, h0, h1, b0, b1, q⟩ := h
  refine Evl.q_cut (M := fun σ' H' => ∃ G, σ' = [some (.ref r), some (.int t.n), some (.int t.s), some (.int t.hand), some (.ref F), some (.int (t.n - 1 - t.backs)), some (.ref G), none, none, none] ∧ Ex H H' ∧ H G = none ∧ H' G = some (.lst ((t.kept.filter fun k => decide (k ≤ t.n - 1 - t.backs)).map V.int))) ?_ ?_
  · walk_at "rd"
    simp only [tLc_lst]
    walk_at "rd"
    refine lcL_g (xs := t.kept.map V.int) (sq_l hF) (fun j => decide (t.kept.getD j 0 ≤ t.n - 1 - t.backs)) (fun j => .int (t.kept.getD j 0)) (by rw [List.length_map]; omega) ?_ ?_
    · intro j x H2 hx e2 R Rt k1 k2
      rw [List.getElem?_map] at hx
      obtain ⟨u, hu, rfl⟩ := Option.map_eq_some_iff.mp hx
      have gd : t.kept.getD j 0 = u := by rw [List.getD_eq_getElem?_getD, hu]; rfl
      rw [gd] at k1 k2
      simp only [wipe]
      walk_at "rd"
      exact ite2 (fun c => k2 (decide_eq_true c) _ H2 (.refl _) (.int u)) fun c => k1 (decide_eq_false c) H2 (.refl _)
    · intro v H2 e2 hv
      rw [List.length_map] at hv
      have hv2 : Rp H2 (New H) v (.list ((t.kept.filter fun k => decide (k ≤ t.n - 1 - t.backs)).map PyData.int)) := by
        rw [← range_filter_map (fun k => decide (k ≤ t.n - 1 - t.backs)) t.kept, List.map_map]
        exact hv
      obtain ⟨G, rfl, nG, hG⟩ := hv2.ints
      exact ⟨G, rfl, e2, nG, hG⟩
  rintro σ H1 ⟨G, rfl, e1, nG, hG⟩
  refine Evl.q_cut (M := fun σ' H' => ∃ A, σ' = [some (.ref r), some (.int t.n), some (.int t.s), some (.int t.hand), some (.ref F), some (.int (t.n - 1 - t.backs)), some (.ref G), some (.ref A), none, none] ∧ Ex H1 H' ∧ H1 A = none ∧ H' A = some (.lst [])) ?_ ?_
  · walk_at "rd"
    exact fun p hp => ⟨exn hp, hp⟩
  rintro σ H2 ⟨A, rfl, e2, nA, hA⟩
  refine Evl.q_cut (M := fun σ' H' => ∃ os vs, σ' = [some (.ref r), some (.int t.n), some (.int t.s), some (.int (t.run os).hand), some (.ref F), some (.int (t.n - 1 - t.backs)), some (.ref G), some (.ref A), none, none] ∧ Mo r H H' ∧ Reel H' r (m + 4) ∧ H' A = some (.lst vs) ∧ RpA H' (fun b => New H b ∧ b ≠ A) vs (os.map opD) ∧ os.length ≤ 1 ∧ t.ok os ∧ t.per os ∧ (∀ o ∈ os, opOk o) ∧ (t.run os).kept = t.kept ∧ (t.run os).backs = t.backs ∧ 0 ≤ (t.run os).hand ∧ (t.run os).hand ≤ t.n - 1 - t.backs) ?_ ?_
  · unfold sp_L_spin
    walk_at "rd"
    generalize hfl : (t.kept.filter fun k => decide (k ≤ t.n - 1 - t.backs)) = fl at *
    have z0f : 0 ∈ fl := by rw [← hfl]; exact List.mem_filter.mpr ⟨z0, decide_eq_true (by omega)⟩
    have fpos : 0 < fl.length := List.length_pos_of_mem z0f
    have flen : fl.length ≤ t.kept.length := by rw [← hfl]; exact List.length_filter_le ..
    have fmem : ∀ x ∈ fl, x ∈ t.kept ∧ x ≤ t.n - 1 - t.backs := fun x hx => by
      rw [← hfl] at hx
      have := List.mem_filter.mp hx
      exact ⟨this.1, of_decide_eq_true this.2⟩
    have hG2 := e2 _ _ hG
    have nGr : G ≠ r := hR.ne nG
    have nAr : A ≠ r := ((hR.ex e1).ne nA)
    have nAG : A ≠ G := fun z => by rw [z, hG] at nA; cases nA
    have nA0 := Evl.fresh_back e1 nA
    have fin : ∀ (H5 : Hp) (v : Int) (p2 : Addr), v ∈ fl → H5 A = some (.lst []) → Mo r H H5 → Reel H5 r (m + 4) → H5 p2 = none → ∃ x, upd H5 p2 (.tup [.str "take", .int v]) A = some (.lst x) ∧ x.length < 16777216 ∧ ∃ os, V.int v = V.int (t.run os).hand ∧ Mo r H (upd (upd H5 p2 (.tup [.str "take", .int v])) A (.lst (x ++ [V.ref p2]))) ∧ Reel (upd (upd H5 p2 (.tup [.str "take", .int v])) A (.lst (x ++ [V.ref p2]))) r (m + 4) ∧
        RpA (upd (upd H5 p2 (.tup [.str "take", .int v])) A (.lst (x ++ [V.ref p2]))) (fun b => New H b ∧ b ≠ A) (x ++ [V.ref p2]) (List.map opD os) ∧ os.length ≤ 1 ∧ t.ok os ∧ t.per os ∧ (∀ (o : Op), o ∈ os → opOk o) ∧ (t.run os).kept = t.kept ∧ (t.run os).backs = t.backs ∧ 0 ≤ (t.run os).hand ∧ (t.run os).hand ≤ t.n - 1 - t.backs := fun H5 v p2 hv hA5 o5 R5 hp2 => by
      have fm := fmem v hv
      have kv := kb v fm.1
      have np2 : p2 ≠ A := fun z => by rw [z, hA5] at hp2; cases hp2
      refine ⟨[], exn hp2 _ _ hA5, by decide, [.take v], rfl, fun c w nc hc => ?_, R5.keep fun w hw => ?_, .cons (op_rp ⟨mo_none o5 R5 hp2, np2⟩ ?_) .nil, Nat.le_refl _, ⟨decide_eq_true fm.1, trivial⟩, ⟨trivial, trivial⟩, fun o ho => ?_, rfl, rfl, kv.1, fm.2⟩
      · rw [upd_ne (fun z => by rw [z, nA0] at hc; cases hc)]
        exact exn hp2 _ _ (o5 c w nc hc)
      · rw [upd_ne (Ne.symm nAr)]
        exact exn hp2 _ _ hw
      · rw [upd_ne np2, upd_same]
        rfl
      · rw [List.mem_singleton.mp ho]
        exact ⟨kv.1, by omega⟩
    refine ite2 (fun c => ?_) fun c => ?_
    · refine ⟨fl, sq_l hG2, fpos, fun mx hmx _ => ⟨fl.map V.int, .inl (sq_l hG2), m, (hR.ex e1).ex e2, by omega, by rw [List.length_map]; omega, by rw [List.length_map]; omega, fun z H4 z0' z1 o4 R4 => ?_⟩⟩
      rw [List.length_map] at z1
      obtain ⟨y, hy⟩ : ∃ y, fl[z.toNat]? = some y := ⟨_, List.getElem?_eq_getElem (by omega)⟩
      refine ⟨fl.map V.int, sq_l (o4 _ _ nGr hG2), .int y, atI_of (j := z.toNat) (by omega) (by rw [List.getElem?_map, hy]; rfl), fun p hp => ?_⟩
      have np := R4.ne hp
      refine ⟨m + 1, R4.ex (exn hp), by omega, fun z2 H5 z3 z4 o5 R5 => ?_⟩
      obtain ⟨v, hv, hvm⟩ : ∃ v : Int, atI [V.int mx, V.int y] z2 = some (.int v) ∧ v ∈ fl := by
        rcases (by omega : z2 = 0 ∨ z2 = 1) with rfl | rfl
        · exact ⟨mx, atI_0, hmx⟩
        · exact ⟨y, atI_1, List.mem_of_getElem? hy⟩
      have hA5 := o5 _ _ nAr (exn hp _ _ (o4 _ _ nAr hA))
      refine ⟨_, sq_l (o5 _ _ np upd_same), _, hv, ⟨_, sq_l hA5⟩, fun p2 hp2 => ?_⟩
      exact fin H5 v p2 hvm hA5 (((Mo.ex (e1.trans e2)).trans (o4.trans (Mo.ex (exn hp)))).trans o5) (R5.up (by omega)) hp2
    · refine ⟨F, t.kept.map V.int, rfl, .inl (sq_l (e2 _ _ (e1 _ _ hF))), rfl, List.all_eq_true.mpr fun v hv => by obtain ⟨k, _, rfl⟩ := List.mem_map.mp hv; rfl, _, rfl, ?_⟩
      have none_ : ∀ (H5 : Hp) (m5 : Int), Mo r H H5 → Reel H5 r m5 → m5 ≤ m + 4 → H5 A = some (.lst []) → ∃ os, t.hand = (t.run os).hand ∧ Mo r H H5 ∧ Reel H5 r (m + 4) ∧ ∃ x, H5 A = some (.lst x) ∧ RpA H5 (fun b => New H b ∧ b ≠ A) x (List.map opD os) ∧ os.length ≤ 1 ∧ t.ok os ∧ t.per os ∧ (∀ (o : Op), o ∈ os → opOk o) ∧ (t.run os).kept = t.kept ∧ (t.run os).backs = t.backs ∧ 0 ≤ (t.run os).hand ∧ (t.run os).hand ≤ t.n - 1 - t.backs := fun H5 m5 o5 R5 hm5 hA5 =>
        ⟨[], rfl, o5, R5.up hm5, [], hA5, .nil, Nat.zero_le _, trivial, trivial, fun o ho => (nomatch ho), rfl, rfl, h0, by show t.hand ≤ _; omega⟩
      refine ite2 (fun c1 => ⟨m, (hR.ex e1).ex e2, by omega, fun z4 H3 z40 z41 o3 R3 => ite2 (fun c2 => ?_) fun c2 => none_ H3 (m + 1) ((Mo.ex (e1.trans e2)).trans o3) R3 (by omega) (o3 _ _ nAr hA)⟩) fun c1 => none_ H2 m (Mo.ex (e1.trans e2)) ((hR.ex e1).ex e2) (by omega) hA
      have hG3 := o3 _ _ nGr hG2
      refine ⟨fl, sq_l hG3, fpos, fun mx hmx _ => ⟨fl.map V.int, .inl (sq_l hG3), m + 1, R3, by omega, by rw [List.length_map]; omega, by rw [List.length_map]; omega, fun z H4 z0' z1 o4 R4 => ?_⟩⟩
      rw [List.length_map] at z1
      obtain ⟨y, hy⟩ : ∃ y, fl[z.toNat]? = some y := ⟨_, List.getElem?_eq_getElem (by omega)⟩
      refine ⟨fl.map V.int, sq_l (o4 _ _ nGr hG3), .int y, atI_of (j := z.toNat) (by omega) (by rw [List.getElem?_map, hy]; rfl), fun p hp => ?_⟩
      have np := R4.ne hp
      refine ⟨m + 1 + 1, R4.ex (exn hp), by omega, fun z2 H5 z3 z4 o5 R5 => ?_⟩
      obtain ⟨v, hv, hvm⟩ : ∃ v : Int, atI [V.int mx, V.int y] z2 = some (.int v) ∧ v ∈ fl := by
        rcases (by omega : z2 = 0 ∨ z2 = 1) with rfl | rfl
        · exact ⟨mx, atI_0, hmx⟩
        · exact ⟨y, atI_1, List.mem_of_getElem? hy⟩
      have hA5 := o5 _ _ nAr (exn hp _ _ (o4 _ _ nAr (o3 _ _ nAr hA)))
      refine ⟨_, sq_l (o5 _ _ np upd_same), _, hv, ⟨_, sq_l hA5⟩, fun p2 hp2 => ?_⟩
      exact fin H5 v p2 hvm hA5 ((((Mo.ex (e1.trans e2)).trans o3).trans (o4.trans (Mo.ex (exn hp)))).trans o5) (R5.up (by omega)) hp2
  rintro σ H3 ⟨os, vs, rfl, o3, R3, hA3, rA, lo, ok, pe, oo, ek, eb, hh0, hh1⟩
  have nA0 := Evl.fresh_back e1 nA
  have nFA : F ≠ A := fun z => by rw [z, nA0] at hF; cases hF
  have hF3 : H3 F = some (.lst (t.kept.map V.int)) := o3 F _ nF hF
  refine Evl.q_cut (M := fun σ' H' => ∃ B, σ' = [some (.ref r), some (.int t.n), some (.int t.s), some (.int (t.run os).hand), some (.ref B), some (.int (t.n - 1 - t.backs)), some (.ref G), some (.ref A), none, none] ∧ Ex H3 H' ∧ H3 B = none ∧ H' B = some (.lst (t.kept.map V.int))) ?_ ?_
  · walk_at "rd"
    exact ⟨t.kept.map V.int, .inl (sq_l hF3), fun l hl => ⟨exn hl, hl, rfl⟩⟩
  rintro σ H4 ⟨B, rfl, e4, nB, hB⟩
  have nB0 : H B = none := mo_none o3 R3 nB
  have nBA : B ≠ A := fun z => by rw [z, hA3] at nB; cases nB
  have nBr : B ≠ r := R3.ne nB
  refine Evl.q_cut (M := fun σ' H' => ∃ os vs, σ' = [some (.ref r), some (.int t.n), some (.int t.s), some (.int (t.run os).hand), some (.ref B), some (.int (t.n - 1 - t.backs)), some (.ref G), some (.ref A), none, none] ∧ Mo r H H' ∧ Reel H' r (m + 5) ∧ H' A = some (.lst vs) ∧ RpA H' (fun b => New H b ∧ b ≠ A ∧ b ≠ B) vs (os.map opD) ∧ H' B = some (.lst ((t.run os).kept.map V.int)) ∧ os.length ≤ 2 ∧ t.ok os ∧ t.per os ∧ (∀ o ∈ os, opOk o) ∧ (t.run os).backs = t.backs ∧ 0 ≤ (t.run os).hand ∧ (t.run os).hand ≤ t.n - 1 - t.backs ∧ ((t.run os).kept.length : Int) ≤ t.s) ?_ ?_
  · unfold sp_L_spin
    walk_at "rd"
    have nAr := hR.ne nA0
    have rB4 : RpA H4 (fun b => New H b ∧ b ≠ A ∧ b ≠ B) vs (os.map opD) := ((rA.off nB).ex e4).sub fun b h => ⟨h.1.1, h.1.2, h.2⟩
    have stay : ∀ (H5 : Hp) (m5 : Int), Mo r H4 H5 → Reel H5 r m5 → m5 ≤ m + 5 → ∃ os_1, (t.run os).hand = (t.run os_1).hand ∧ Mo r H H5 ∧ Reel H5 r (m + 5) ∧ ∃ x, H5 A = some (.lst x) ∧ RpA H5 (fun b => New H b ∧ b ≠ A ∧ b ≠ B) x (List.map opD os_1) ∧ H5 B = some (.lst (List.map V.int (t.run os_1).kept)) ∧ os_1.length ≤ 2 ∧ t.ok os_1 ∧ t.per os_1 ∧ (∀ (o : Op), o ∈ os_1 → opOk o) ∧ (t.run os_1).backs = t.backs ∧ 0 ≤ (t.run os_1).hand ∧ (t.run os_1).hand ≤ t.n - 1 - t.backs ∧ ((t.run os_1).kept.length : Int) ≤ t.s := fun H5 m5 o R h =>
      ⟨os, rfl, (o3.trans (Mo.ex e4)).trans o, R.up h, vs, o A _ nAr (e4 _ _ hA3), rB4.keep (fun b w h1 h2 => o b w (hR.ne h1.1) h2) (fun _ h => h), by rw [ek]; exact o B _ nBr hB, by omega, ok, pe, oo, eb, hh0, hh1, by rw [ek]; exact kl⟩
    have R4 := R3.ex e4
    refine ⟨B, t.kept.map V.int, rfl, .inl (sq_l hB), rfl, List.all_eq_true.mpr fun v hv => by obtain ⟨k, _, rfl⟩ := List.mem_map.mp hv; rfl, _, rfl, ite2 (fun c1 => ⟨t.kept.map V.int, .inl (sq_l hB), ite2 (fun c2 => ⟨m + 4, R4, by omega, fun z H5 z0 z1 o5 R5 => ite2 (fun c3 => ?_) fun c3 => stay H5 (m + 4 + 1) o5 R5 (by omega)⟩) fun c2 => stay H4 (m + 4) (Mo.refl _ _) R4 (by omega)⟩) fun c1 => stay H4 (m + 4) (Mo.refl _ _) R4 (by omega)⟩
    rw [if_pos rfl, inV_ints] at c1
    have c1 : (t.run os).hand ∉ t.kept := by simpa using c1
    rw [List.length_map] at c2
    have hA5 := o5 A _ nAr (e4 _ _ hA3)
    have hB5 := o5 B _ nBr hB
    have rA5 := rB4.keep (fun b w h1 h2 => o5 b w (hR.ne h1.1) h2) (fun _ h => h)
    have lv : vs.length = os.length := by rw [rA5.len, List.length_map]
    refine ⟨⟨_, sq_l hB5⟩, _, hB5, by rw [List.length_map]; omega, ⟨_, sq_l (by rw [upd_ne (Ne.symm nBA)]; exact hA5)⟩, fun p hp => ?_⟩
    have npB : p ≠ B := fun z => by rw [z, upd_same] at hp; cases hp
    have hp5 : H5 p = none := by rw [upd_ne npB] at hp; exact hp
    have npA : p ≠ A := fun z => by rw [z, hA5] at hp5; cases hp5
    have npr := R5.ne hp5
    have p0 : H p = none := mo_none ((o3.trans (Mo.ex e4)).trans o5) R5 hp5
    have er : t.run (os ++ [.keep]) = (t.run os).did .keep := by rw [run_app]; rfl
    refine ⟨vs, by rw [upd_ne (Ne.symm npA), upd_ne (Ne.symm nBA)]; exact hA5, by omega, os ++ [.keep], by rw [er]; rfl, fun c w nc hc => ?_, R5.up (by omega) |>.keep fun w hw => ?_, ?_, ?_, by rw [List.length_append]; exact Nat.succ_le_succ lo, ?_, ?_, fun o ho => ?_, by rw [er]; exact eb, by rw [er]; exact hh0, by rw [er]; exact hh1, ?_⟩
    · rw [upd_ne (fun z => by rw [z, nA0] at hc; cases hc), upd_ne (fun z => by rw [z, p0] at hc; cases hc), upd_ne (fun z => by rw [z, nB0] at hc; cases hc)]
      exact ((o3.trans (Mo.ex e4)).trans o5) c w nc hc
    · rw [upd_ne (Ne.symm nAr), upd_ne (Ne.symm npr), upd_ne (Ne.symm nBr)]
      exact hw
    · rw [List.map_append]
      refine RpA.app (rA5.keep (fun b w h1 h2 => by rw [upd_ne h1.2.1, upd_ne (fun z => by rw [z, hp5] at h2; cases h2), upd_ne h1.2.2]; exact h2) fun _ h => h) (.cons (op_rp ⟨p0, npA, npB⟩ ?_) .nil)
      rw [upd_ne npA, upd_same]
      rfl
    · rw [upd_ne nBA, upd_ne (Ne.symm npB), upd_same, er]
      show some (HO.lst (t.kept.map V.int ++ [V.int (t.run os).hand])) = some (HO.lst (((t.run os).kept ++ [(t.run os).hand]).map V.int))
      rw [List.map_append, ek]
      rfl
    · refine (ok_app os [.keep] t).mpr ⟨ok, ?_, trivial⟩
      show (decide ((t.run os).hand ∉ (t.run os).kept) && decide (((t.run os).kept.length : Int) < (t.run os).s)) = true
      rw [ek, run_n.2, decide_eq_true c1, decide_eq_true c2]
      rfl
    · exact (per_app os [.keep] t).mpr ⟨pe, trivial, trivial⟩
    · rcases List.mem_append.mp ho with ho | ho
      · exact oo o ho
      · rw [List.mem_singleton.mp ho]
        trivial
    · rw [er]
      show (((t.run os).kept ++ [(t.run os).hand]).length : Int) ≤ t.s
      rw [List.length_append, ek, List.length_cons, List.length_nil]
      omega
  rintro σ H5 ⟨os, vs, rfl, o5, R5, hA5, rA5, hB5', lo, ok, pe, oo, eb, hh0, hh1, kl5⟩
  have nAr := hR.ne nA0
  refine Evl.q_cut (M := fun σ' H' => ∃ os vs x, σ' = [some (.ref r), some (.int t.n), some (.int t.s), some (.int (t.run os).hand), some (.ref B), some (.int (t.n - 1 - t.backs)), some (.ref G), some (.ref A), x, none] ∧ BegI H t r A B os vs m H' ∧ (t.run os).hand = t.n - 1 - t.backs) ?_ ?_
  · walk_at "rd"
    refine ⟨fun k σ H' => ∃ os vs x, σ = [some (.ref r), some (.int t.n), some (.int t.s), some (.int (t.run os).hand), some (.ref B), some (.int (t.n - 1 - t.backs)), some (.ref G), some (.ref A), x, none] ∧ BegI H t r A B os vs m H' ∧ k = (t.n - 1 - t.backs - (t.run os).hand).toNat, ⟨_, os, vs, none, rfl, ⟨o5, R5.up (by omega), hA5, rA5, hB5', by omega, ok, pe, oo, eb, hh0, hh1, kl5⟩, rfl⟩, ?_⟩
    rintro k σ H6 ⟨os, vs, x, rfl, ⟨o6, R6, hA6, rA6, hB6, lo6, ok6, pe6, oo6, eb6, hg0, hg1, kl6⟩, rfl⟩
    walk_at "rd"
    refine ite2 (fun hlt => ?_) (fun hge => ?_)
    · refine ⟨fun σ' H'' => ∃ os' vs' x', σ' = [some (.ref r), some (.int t.n), some (.int t.s), some (.int (t.run os').hand), some (.ref B), some (.int (t.n - 1 - t.backs)), some (.ref G), some (.ref A), x', none] ∧ BegI H t r A B os' vs' m H'' ∧ (t.run os).hand < (t.run os').hand, fun σ' H'' ⟨os', vs', x', e1, e2, e3⟩ => ⟨_, ?_, os', vs', x', e1, e2, rfl⟩, ?_⟩
      · have := e2.h1
        omega
      · unfold sp_L_spin
        walk_at "rd"
        have b6 : BegI H t r A B os vs m H6 := ⟨o6, R6, hA6, rA6, hB6, lo6, ok6, pe6, oo6, eb6, hg0, hg1, kl6⟩
        refine ⟨_, R6, by omega, by omega, by omega, fun z H7 z0 z1 o7 R7 => ⟨⟨_, sq_l (o7 _ _ nAr hA6)⟩, fun p hp => ?_⟩⟩
        have eg := exn (o := .tup [.str "go", .int (1 + z)]) hp
        have hA7 := eg _ _ (o7 _ _ nAr hA6)
        obtain ⟨bg, lg⟩ := b6.go nA0 nB0 (Ne.symm nBA) hR b0 n2 o7 R7 hp z0 z1
        have lv : vs.length = os.length := by rw [rA6.len, List.length_map]
        have hh : (t.run (os ++ [.go (1 + z)])).hand = (t.run os).hand + (1 + z) := by rw [run_snoc]; rfl
        have hk : (t.run (os ++ [.go (1 + z)])).kept = (t.run os).kept := by rw [run_snoc]; rfl
        have hs := (run_n (os := os ++ [.go (1 + z)]) (t := t)).2
        have hB7 := bg.hB
        have R7' := bg.reel
        refine ⟨vs, hA7, by omega, _, .inl (sq_l hB7), ?_⟩
        have end_ : ∀ H8, Mo r (upd (upd H7 p (.tup [.str "go", .int (1 + z)])) A (.lst (vs ++ [.ref p]))) H8 → Reel H8 r (m + 5 + 2 * (t.run (os ++ [.go (1 + z)])).hand) → ∃ os', (t.run os).hand + (1 + z) = (t.run os').hand ∧ ∃ x, BegI H t r A B os' x m H8 ∧ (t.run os).hand < (t.run os').hand := fun H8 o8 R8 => by
          refine ⟨_, hh.symm, _, ⟨bg.mo.trans o8, R8, o8 _ _ nAr bg.hA, bg.rA.keep (fun b w h1 h2 => o8 b w (hR.ne h1.1) h2) (fun _ h => h), o8 _ _ nBr bg.hB, bg.lo, bg.ok, bg.pe, bg.oo, bg.eb, bg.h0, bg.h1, bg.kl⟩, by omega⟩
        have bmo := bg.mo
        have RR := R7.keep (H' := upd (upd H7 p (.tup [.str "go", .int (1 + z)])) A (.lst (vs ++ [.ref p]))) fun w hw => by rw [upd_ne (Ne.symm nAr), upd_ne (Ne.symm (R7.ne hp))]; exact hw
        generalize upd (upd H7 p (.tup [.str "go", .int (1 + z)])) A (.lst (vs ++ [.ref p])) = H8 at *
        refine ite2 (fun c2 => ⟨B, _, rfl, .inl (sq_l hB7), rfl, List.all_eq_true.mpr fun v hv => by obtain ⟨k, _, rfl⟩ := List.mem_map.mp hv; rfl, _, rfl, ite2 (fun c1 => ⟨_, RR, by omega, fun y H9 y0 y1 o9 R9 => ite2 (fun c3 => ?_) fun _ => end_ H9 o9 (R9.up (by omega))⟩) fun _ => end_ H8 (Mo.refl _ _) (RR.up (by omega))⟩) fun _ => end_ H8 (Mo.refl _ _) (RR.up (by omega))
        rw [if_pos rfl, inV_ints] at c1
        have c1 : (t.run os).hand + (1 + z) ∉ (t.run (os ++ [.go (1 + z)])).kept := by simpa using c1
        rw [List.length_map] at c2
        have hB9 := o9 _ _ nBr hB7
        have hA9 := o9 _ _ nAr bg.hA
        refine ⟨⟨_, sq_l hB9⟩, _, hB9, by rw [List.length_map]; omega, ⟨_, sq_l (by rw [upd_ne (Ne.symm nBA)]; exact hA9)⟩, fun p2 hp2 => ?_⟩
        have np2 : p2 ≠ A := fun z => by rw [z, upd_ne (Ne.symm nBA), hA9] at hp2; cases hp2
        rw [← hh] at c1 hp2 ⊢
        have k := bg.kp nA0 nB0 (Ne.symm nBA) hR lg o9 (R9.up (by omega)) hp2 c1 c2
        exact ⟨_, by rw [upd_ne (Ne.symm np2), upd_ne (Ne.symm nBA)]; exact hA9, by rw [List.length_append, List.length_cons, List.length_nil]; omega, _, (by rw [run_snoc (o := .keep)]; rfl), _, k, by rw [run_snoc (o := .keep)]; show _ < (t.run (os ++ [Op.go (1 + z)])).hand; omega⟩
    · exact ⟨os, rfl, vs, ⟨o6, R6, hA6, rA6, hB6, lo6, ok6, pe6, oo6, eb6, hg0, hg1, kl6⟩, by omega⟩
  rintro σ H6 ⟨os, vs, x, rfl, b, hw⟩
  walk_at "rd"
  intro p hp
  have ep := exn (o := .tup [.ref A, .int (t.run os).hand, .ref B]) hp
  have hl := b.lo
  rw [hw] at ep hl ⊢
  exact q p A B vs os _ (b.mo.trans (Mo.ex ep)) ((b.reel.ex ep).up (by rw [hw]; omega)) upd_same (ep _ _ b.hA) ((b.rA.ex ep).sub fun c h => h.1) nB0 (ep _ _ b.hB) b.ok b.pe hw b.eb b.oo (by omega)
theorem for_rng3d {σ : L2.St} {H : Hp} {ta : TA} {tb : TS} {j : Nat} {D : Ends} {i k : Int} (n : Nat) (ha : ∀ R, R [.int i, .int k, .int (-1)] H → ta σ H R) (hn : (i - k).toNat = n) (hb : -(2 ^ 60) ≤ i ∧ i ≤ 2 ^ 60 ∧ -(2 ^ 60) ≤ k ∧ k ≤ 2 ^ 60)
    (Pv : Nat → L2.St → Hp → Prop) (h0 : Pv 0 σ H) (hd : ∀ σ H, Pv n σ H → D.nx σ H)
    (hs : ∀ (m : Nat) σ H, m < n → Pv m σ H → tb { D with nx := Pv (m + 1), ct := Pv (m + 1), bk := D.nx } (σ.set j (some (.int (i - (m : Int))))) H) : tFor (iRng3 ta) (gName j) tb D σ H := by
  refine ha _ ⟨i, k, -1, n, rfl, by rw [← hn]; exact RgC.neg (by omega) (by omega) (by omega) (by omega), ?_⟩
  refine for_rangeC Pv h0 (fun m σ H hm p => ?_) hd
  have e : i + (m : Nat) * (-1) = i - (m : Int) := by omega
  show tb _ (σ.set j (some (.int (i + (m : Nat) * (-1))))) H
  rw [e]
  exact hs m σ H hm p
/-! ### a drawn whole list -/
theorem run_nodup : ∀ {os : List Op} {t : TSt}, t.ok os → t.kept.Nodup → (t.run os).kept.Nodup
  | [], _, _, h => h
  | o :: os, t, ok, h => by
    refine run_nodup (os := os) (t := t.did o) ok.2 ?_
    cases o with
    | keep =>
      have c := of_decide_eq_true (Bool.and_eq_true_iff.mp ok.1).1
      show (t.kept ++ [t.hand]).Nodup
      rw [List.nodup_append]
      exact ⟨h, by simp, fun a ha b hb z => c (by rw [List.mem_singleton.mp hb] at z; rw [← z]; exact ha)⟩
    | free m => exact h.erase m
    | _ => exact h
theorem run_bnd : ∀ {os : List Op} {t : TSt}, t.ok os → (∀ o ∈ os, opOk o) → 0 ≤ t.hand → t.hand < t.n → (∀ k ∈ t.kept, 0 ≤ k ∧ k < t.n) → 0 ≤ (t.run os).hand ∧ (t.run os).hand < t.n ∧ ∀ k ∈ (t.run os).kept, 0 ≤ k ∧ k < t.n
  | [], _, _, _, h0, h1, hk => ⟨h0, h1, hk⟩
  | o :: os, t, ok, oo, h0, h1, hk => by
    have e : (t.did o).n = t.n := by cases o <;> rfl
    have oo' : ∀ o ∈ os, opOk o := fun x hx => oo x (List.mem_cons_of_mem _ hx)
    have o1 := oo o (List.mem_cons_self ..)
    have key : 0 ≤ (t.did o).hand ∧ (t.did o).hand < t.n ∧ ∀ k ∈ (t.did o).kept, 0 ≤ k ∧ k < t.n := by
      cases o with
      | go k => exact ⟨by have : 1 ≤ k := o1.1; show 0 ≤ t.hand + k; omega, of_decide_eq_true ok.1, hk⟩
      | keep => exact ⟨h0, h1, fun k h => by
          rcases List.mem_append.mp h with h | h
          · exact hk k h
          · rw [List.mem_singleton.mp h]; exact ⟨h0, h1⟩⟩
      | back => exact ⟨h0, h1, hk⟩
      | take m => exact ⟨(hk m (of_decide_eq_true ok.1)).1, (hk m (of_decide_eq_true ok.1)).2, hk⟩
      | free m => exact ⟨h0, h1, fun k h => hk k (List.mem_of_mem_erase h)⟩
    have := run_bnd (os := os) (t := t.did o) ok.2 oo' key.1 (by rw [e]; exact key.2.1) (by rw [e]; exact key.2.2)
    rw [e] at this
    exact this
theorem run_backs : ∀ {os : List Op} {t : TSt}, t.backs ≤ (t.run os).backs
  | [], _ => Int.le_refl _
  | o :: os, t => by
    have h := run_backs (os := os) (t := t.did o)
    have : t.backs ≤ (t.did o).backs := by
      cases o with
      | back => show t.backs ≤ t.backs + 1; omega
      | _ => exact Int.le_refl _
    exact Int.le_trans this h
theorem per_zero : ∀ {os : List Op} {t : TSt}, t.per os → (t.run os).backs ≤ t.n - 1 → 0 ∈ t.kept → 0 ∈ (t.run os).kept
  | [], _, _, _, h => h
  | o :: os, t, pe, hb, h => by
    have e : (t.did o).n = t.n := by cases o <;> rfl
    refine per_zero (os := os) (t := t.did o) pe.2 (by rw [e]; exact hb) ?_
    cases o with
    | keep => exact List.mem_append_left _ h
    | free m =>
      have q : t.n - 1 - t.backs < m := pe.1
      have := run_backs (os := Op.free m :: os) (t := t)
      have nm : (0 : Int) ≠ m := by omega
      exact (List.mem_erase_of_ne nm).mpr h
    | _ => exact h
theorem kept_leq : ∀ {os : List Op} {t : TSt}, t.ok os → (t.kept.length : Int) ≤ t.s → ((t.run os).kept.length : Int) ≤ t.s
  | [], _, _, h => h
  | o :: os, t, ok, h => by
    have e : (t.did o).s = t.s := by cases o <;> rfl
    have h2 : ((t.did o).kept.length : Int) ≤ (t.did o).s := by
      rw [e]
      cases o with
      | keep =>
        have c := of_decide_eq_true (Bool.and_eq_true_iff.mp ok.1).2
        show ((t.kept ++ [t.hand]).length : Int) ≤ t.s
        rw [List.length_append, List.length_cons, List.length_nil]
        omega
      | free m =>
        show ((t.kept.erase m).length : Int) ≤ t.s
        have := List.length_erase_le (a := m) (l := t.kept)
        omega
      | _ => exact h
    have := kept_leq (os := os) (t := t.did o) ok.2 h2
    rw [e] at this
    exact this
theorem dr_facts {n s : Int} {os : List Op} (hn : 1 ≤ n) (hs : 1 ≤ s) (ok : (t0S n s).ok os) (oo : ∀ o ∈ os, opOk o) : ((t0S n s).run os).kept.Nodup ∧ 0 ≤ ((t0S n s).run os).hand ∧ ((t0S n s).run os).hand < n ∧ (∀ k ∈ ((t0S n s).run os).kept, 0 ≤ k ∧ k < n) ∧ (((t0S n s).run os).kept.length : Int) ≤ s := by
  have a := run_nodup ok (by show ([0] : List Int).Nodup; simp)
  have b := run_bnd ok oo (Int.le_refl _) (by show (0 : Int) < n; omega) (fun k hk => by rw [List.mem_singleton.mp hk]; exact ⟨Int.le_refl _, by show (0 : Int) < n; omega⟩)
  have c := kept_leq ok (by show ((1 : Nat) : Int) ≤ s; omega)
  exact ⟨a, b.1, b.2.1, b.2.2, c⟩
structure DrI (H : Hp) (n s : Int) (r KL F : Addr) (os : List Op) (ls : List V) (m : Int) (H' : Hp) : Prop where
  mo : Mo r H H'
  reel : Reel H' r m
  nK : H KL = none
  nF : H F = none
  ne : KL ≠ F
  hK : H' KL = some (.lst (((t0S n s).run os).kept.map V.int))
  hF : H' F = some (.lst ls)
  rF : RpA H' (fun b => New H b ∧ b ≠ F ∧ b ≠ KL) ls (os.map opD)
  ok : (t0S n s).ok os
  pe : (t0S n s).per os
  oo : ∀ o ∈ os, opOk o
theorem ops_tup {H : Hp} {S : Addr → Prop} : ∀ {os : List Op} {ls : List V}, RpA H S ls (os.map opD) → RpA H (fun b => S b ∧ ∃ xs, H b = some (.tup xs)) ls (os.map opD)
  | [], _, .nil => .nil
  | o :: os, _, .cons h r => by
    obtain ⟨a, rfl, sa, ha⟩ := rp_op h
    exact .cons (op_rp ⟨sa, _, ha⟩ ha) (ops_tup r)
theorem DrI.free {H H1 H2 : Hp} {n s m m0 m2 v : Int} {r KL F p : Addr} {os : List Op} {ls : List V} (d : DrI H n s r KL F os ls m H1) (hR : Reel H r m0) (o : Mo r H1 H2) (R : Reel H2 r m2) (hv : v ∈ ((t0S n s).run os).kept) (v0 : 0 ≤ v ∧ v ≤ 10 ^ 30) (hw : n - 1 - ((t0S n s).run os).backs < v)
    (hp : upd H2 KL (.lst ((((t0S n s).run os).kept.erase v).map V.int)) p = none) :
    DrI H n s r KL F (os ++ [.free v]) (ls ++ [.ref p]) m2 (upd (upd (upd H2 KL (.lst ((((t0S n s).run os).kept.erase v).map V.int))) p (.tup [.str "free", .int v])) F (.lst (ls ++ [.ref p]))) := by
  have nKr := hR.ne d.nK
  have nFr := hR.ne d.nF
  have hF2 := o F _ nFr d.hF
  have npK : p ≠ KL := fun z => by rw [z, upd_same] at hp; cases hp
  have hp : H2 p = none := by rw [upd_ne npK] at hp; exact hp
  have npF : p ≠ F := fun z => by rw [z, hF2] at hp; cases hp
  have npr := R.ne hp
  have p0 : H p = none := mo_none (d.mo.trans o) R hp
  have hk : ((t0S n s).run (os ++ [.free v])).kept = ((t0S n s).run os).kept.erase v := by rw [run_snoc]; rfl
  refine ⟨fun c w nc hc => ?_, R.keep fun w hw => ?_, d.nK, d.nF, d.ne, ?_, upd_same, ?_, (ok_app os _ _).mpr ⟨d.ok, decide_eq_true hv, trivial⟩, (per_app os _ _).mpr ⟨d.pe, ?_, trivial⟩, fun x hx => ?_⟩
  · rw [upd_ne (fun z => by rw [z, d.nF] at hc; cases hc), upd_ne (fun z => by rw [z, p0] at hc; cases hc), upd_ne (fun z => by rw [z, d.nK] at hc; cases hc)]
    exact o c w nc (d.mo c w nc hc)
  · rw [upd_ne (Ne.symm nFr), upd_ne (Ne.symm npr), upd_ne (Ne.symm nKr)]
    exact hw
  · rw [upd_ne d.ne, upd_ne (Ne.symm npK), upd_same, hk]
  · rw [List.map_append]
    refine RpA.app (d.rF.keep (fun b w h1 h2 => ?_) fun _ h => h) (.cons (op_rp ⟨p0, npF, npK⟩ ?_) .nil)
    · have h3 := o b w (hR.ne h1.1) h2
      rw [upd_ne h1.2.1, upd_ne (fun z => by rw [z, hp] at h3; cases h3), upd_ne h1.2.2]
      exact h3
    · rw [upd_ne npF, upd_same]
      rfl
  · show ((t0S n s).run os).n - 1 - ((t0S n s).run os).backs < v
    rw [run_n.1]
    exact hw
  · rcases List.mem_append.mp hx with hx | hx
    · exact d.oo x hx
    · rw [List.mem_singleton.mp hx]
      exact v0
def sp_L_drawn_list (K : PySem.W.Frag) : Sp := sp3 fun x y z H Q _ => ∃ (r : Addr) (n s m : Int), x = .ref r ∧ y = .int n ∧ z = .int s ∧ Reel H r m ∧ m ≤ 10 ^ 30 ∧ 1 ≤ n ∧ n ≤ 10 ∧ 1 ≤ s ∧ s ≤ 4 ∧
  ∀ F os ls H', Mo r H H' → Reel H' r (m + 700) → H F = none → H' F = some (.lst ls) → RpA H' (New H) ls (os.map opD) → (t0S n s).ok os → (t0S n s).per os → ((t0S n s).run os).backs = n → ((t0S n s).run os).hand = 0 → (∀ o ∈ os, opOk o) → os.length ≤ 400 → Q (.ref F) H'
theorem sc_L_drawn_list : FnScope ["_law_reel", "_law_n", "_law_s", "_law_hand", "_law_kept", "_law_found", "_law_wanted", "_law_state", "_law_told"] ["_law_reel", "_law_n", "_law_s"] (defScope s_L_drawn_list) := ⟨rfl, rfl, rfl, by decide +kernel, rfl, by decide +kernel, by decide +kernel⟩
theorem ok_L_drawn_list (T : Txt P w K mg base) : FnOk P w K mg base (L2.CX P w) 3 T.a_L_drawn_list T.fd_L_drawn_list ["_law_reel", "_law_n", "_law_s"] (sp_L_drawn_list K) := by
  refine FunD.ok T.F_L_drawn_list sc_L_drawn_list (fun vs H Q E h => ar3 h) (fun cdv A fr s H vs Q E hr h => ⟨_, PSs.nox (Evl.pss_cut (ps_par3 (i := 3) (j := 4) (l := 5) (by rfl) sc_L_drawn_list.nd rfl rfl rfl (by decide) (by decide) (by decide) rfl rfl rfl (pa_cons pe_int (pa_cons (pe_lst (pa_cons pe_int pa_nil)) (pa_cons (pe_lst pa_nil) pa_nil))) (by rfl)) (pss_cons (ps_for PassesOwn.never rfl (pi_range3 (by rfl) T.n_range (pa_cons (pe_op op_sub (pv 1) pe_int) (pa_cons (pe_un un_neg pe_int) (pa_cons (pe_un un_neg pe_int) pa_nil)))) (pg_name (i := 6) sc_L_drawn_list.nd rfl (.inr rfl)) (Evl.pss_cut (ps_for PassesOwn.never rfl (pi_list (pe_lc (own := [("_law_state", 7)]) rfl sc_L_drawn_list.nd (pi_list (pv 4)) (blkOk_by (N := ["_law_reel", "_law_n", "_law_s", "_law_hand", "_law_kept", "_law_found", "_law_wanted", "_law_state", "_law_told"]) (sc := defScope s_L_drawn_list) (by decide +kernel)) (fun _ _ _ _ _ => (pg_name (i := 7) sc_L_drawn_list.nd rfl (Or.inl rfl))) (fun _ _ _ _ _ => (pts_one (pt_cmpR op_gt (pv 7) (pv 6) (nomark _)))) (fun _ _ _ _ _ => (pv 7)))) (pg_name (i := 7) sc_L_drawn_list.nd rfl (.inl rfl)) (pss_one (ps_if (pt_cmpR op_gt (pe_call (ok_L_spin T) (hr.mono (by decide)) (by rfl) T.g_L_spin T.F_L_spin.kp T.b_L_spin .nil passL (pa_cons (pv 0) (pa_cons pe_int pa_nil))) pe_int (nomark _)) (pss_cons (ps_expr (pe_remX rfl takes0 (pv 4) (pv 7))) (pss_one (ps_expr (pe_bm PySem.F.plainAttrs_list PySem.F.slot_list_append PySem.F.type_list_append mt_append (pv 5) (pa_cons (pe_tup (pa_cons pe_str (pa_cons (pv 7) pa_nil))) pa_nil))))) pss_nil))) (Evl.pss_cut (ps_asg (pe_call (ok_L_begin T) hr (by rfl) T.g_L_begin T.F_L_begin.kp T.b_L_begin .nil passL (pa_cons (pv 0) (pa_cons (pv 1) (pa_cons (pv 2) (pa_cons (pv 3) (pa_cons (pv 4) (pa_cons (pv 6) pa_nil))))))) (pg_tupT (n := 3) rfl (pgs_cons (pg_name (i := 8) sc_L_drawn_list.nd rfl (.inl rfl)) (pgs_cons (pg_name (i := 3) sc_L_drawn_list.nd rfl (.inl rfl)) (pgs_cons (pg_name (i := 4) sc_L_drawn_list.nd rfl (.inl rfl)) pgs_nil))))) (pss_one (ps_set (i := 5) sc_L_drawn_list.nd rfl (.inl rfl) (pe_op op_cat (pe_op op_cat (pv 5) (pv 8)) (pe_lst (pa_cons (pe_tup (pa_cons pe_str pa_nil)) pa_nil)))))))) (pss_one (ps_ret (pv 5))))), ?_⟩)
  obtain ⟨_, _, _, rfl, r, n, s, m, rfl, rfl, rfl, hR, hm, n1, n2, s1, s2, q⟩ := h
  refine Evl.q_cut (M := fun σ' H' => ∃ KL F, σ' = [some (.ref r), some (.int n), some (.int s), some (.int 0), some (.ref KL), some (.ref F), none, none, none] ∧ DrI H n s r KL F [] [] m H') ?_ ?_
  · walk_at "rd"
    intro p hp p1 hp1
    have e := (exn (o := .lst [.int 0]) hp).trans (exn (o := .lst []) hp1)
    exact ⟨Mo.ex e, hR.ex e, hp, Evl.fresh_back (exn hp) hp1, (fun z => by rw [z, upd_same] at hp1; cases hp1), exn hp1 _ _ upd_same, upd_same, .nil, trivial, trivial, fun o h => nomatch h⟩
  rintro σ H1 ⟨KL, F, rfl, d⟩
  walk_at "rd"
  refine for_rng3d (i := n - 1) (k := -1) n.toNat (fun R q => by walk_at "rd"; exact q) (by omega) (by omega)
    (fun j σ H' => ∃ h KL F os ls x y z, σ = [some (.ref r), some (.int n), some (.int s), some (.int h), some (.ref KL), some (.ref F), x, y, z] ∧ DrI H n s r KL F os ls (m + 65 * j) H' ∧ ((t0S n s).run os).hand = h ∧ ((t0S n s).run os).backs = j ∧ os.length ≤ 40 * j ∧ (0 < j → h = n - j))
    ⟨0, KL, F, [], [], none, none, none, rfl, ⟨d.mo, d.reel.up (by omega), d.nK, d.nF, d.ne, d.hK, d.hF, d.rF, d.ok, d.pe, d.oo⟩, rfl, rfl, by decide, fun h => absurd h (by decide)⟩ ?_ ?_
  · rintro σ H2 ⟨h, KL, F, os, ls, x, y, z, rfl, d, eh, eb, lo, hh⟩
    walk_at "rd"
    exact q F os ls H2 d.mo (d.reel.up (by omega)) d.nF d.hF (d.rF.sub fun b h => h.1) d.ok d.pe (by omega) (by rw [eh, hh (by omega)]; omega) d.oo (by omega)
  rintro j σ H2 hj ⟨h, KL, F, os, ls, x, y, z, rfl, d, eh, eb, lo, hh⟩
  walk_at "rd"
  refine Evl.q_cut (M := fun σ' H' => ∃ os ls y z, σ' = [some (.ref r), some (.int n), some (.int s), some (.int h), some (.ref KL), some (.ref F), some (.int (n - 1 - j)), y, z] ∧ DrI H n s r KL F os ls (m + 65 * j + 4) H' ∧ ((t0S n s).run os).hand = h ∧ ((t0S n s).run os).backs = j ∧ os.length ≤ 40 * j + 4) ?_ ?_
  · simp only [tFor_lst]
    simp only [tLc_lst]
    walk_at "rd"
    have f2 := dr_facts n1 s1 d.ok d.oo
    have dK := d.hK
    have dKl : ((t0S n s).run os).kept.length ≤ 4 := by omega
    generalize hkept : ((t0S n s).run os).kept = kept at *
    refine lcL_g (xs := kept.map V.int) (sq_l dK) (fun i => decide (n - 1 - j < kept.getD i 0)) (fun i => .int (kept.getD i 0)) (by rw [List.length_map]; omega) ?_ ?_
    · intro i x H3 hx e3 R Rt k1 k2
      rw [List.getElem?_map] at hx
      obtain ⟨u, hu, rfl⟩ := Option.map_eq_some_iff.mp hx
      have gd : kept.getD i 0 = u := by rw [List.getD_eq_getElem?_getD, hu]; rfl
      rw [gd] at k1 k2
      simp only [wipe]
      walk_at "rd"
      exact ite2 (fun c => k2 (decide_eq_true c) _ H3 (.refl _) (.int u)) fun c => k1 (decide_eq_false c) H3 (.refl _)
    intro v H3 e3 hv
    rw [List.length_map] at hv
    have hv2 : Rp H3 (New H2) v (.list ((kept.filter fun k => decide (n - 1 - j < k)).map PyData.int)) := by
      rw [← range_filter_map (fun k => decide (n - 1 - (j : Int) < k)) kept, List.map_map]
      exact hv
    obtain ⟨G, rfl, nG, hG⟩ := hv2.ints
    have fnd : (kept.filter fun k => decide (n - 1 - (j : Int) < k)).Nodup := f2.1.filter _
    have fmem : ∀ x ∈ kept.filter fun k => decide (n - 1 - (j : Int) < k), x ∈ kept ∧ n - 1 - j < x := fun x hx => by
      have := List.mem_filter.mp hx
      exact ⟨this.1, of_decide_eq_true this.2⟩
    have flen : (kept.filter fun k => decide (n - 1 - (j : Int) < k)).length ≤ kept.length := List.length_filter_le ..
    generalize (kept.filter fun k => decide (n - 1 - (j : Int) < k)) = fl at *
    have nG : H2 G = none := nG
    have nGr : G ≠ r := d.reel.ne nG
    have nGK : G ≠ KL := fun z => by rw [z, dK] at nG; cases nG
    have nGF : G ≠ F := fun z => by rw [z, d.hF] at nG; cases nG
    refine forL_in (xs := fl.map V.int) (sq_l hG) (fun i σ H' => ∃ os ls y, σ = [some (.ref r), some (.int n), some (.int s), some (.int h), some (.ref KL), some (.ref F), some (.int (n - 1 - j)), y, z] ∧ DrI H n s r KL F os ls (m + 65 * j + i) H' ∧ ((t0S n s).run os).hand = h ∧ ((t0S n s).run os).backs = j ∧ os.length ≤ 40 * j + i ∧ H' G = some (.lst (fl.map V.int)) ∧ ∀ x ∈ fl.drop i, x ∈ ((t0S n s).run os).kept)
      ⟨os, ls, y, rfl, ⟨d.mo.trans (Mo.ex e3), (d.reel.ex e3).up (by omega), d.nK, d.nF, d.ne, e3 _ _ d.hK, e3 _ _ d.hF, d.rF.ex e3, d.ok, d.pe, d.oo⟩, eh, eb, by omega, hG, fun x hx => by rw [hkept]; exact (fmem x hx).1⟩ ?_ ?_ ?_
    · rintro i σ H4 _ ⟨_, _, _, _, _, _, _, _, h, _⟩
      exact sq_l h
    · rintro σ H4 ⟨os4, ls4, y4, rfl, d4, eh4, eb4, lo4, hG4, _⟩
      rw [List.length_map] at d4 lo4
      exact ⟨os4, ls4, y4, z, rfl, ⟨d4.mo, d4.reel.up (by omega), d4.nK, d4.nF, d4.ne, d4.hK, d4.hF, d4.rF, d4.ok, d4.pe, d4.oo⟩, eh4, eb4, by omega⟩
    rintro i v σ H4 hx ⟨os4, ls4, y4, rfl, d4, eh4, eb4, lo4, hG4, hk4⟩
    rw [List.getElem?_map] at hx
    obtain ⟨u, hu, rfl⟩ := Option.map_eq_some_iff.mp hx
    have hi := (List.getElem?_eq_some_iff.mp hu).1
    have hd : fl.drop i = u :: fl.drop (i + 1) := by rw [List.drop_eq_getElem_cons hi, (List.getElem?_eq_some_iff.mp hu).2]
    have hu2 := fmem u (List.mem_of_getElem? hu)
    have hu3 := f2.2.2.2.1 u hu2.1
    have hu4 := hk4 u (by rw [hd]; exact List.mem_cons_self ..)
    have nd := fnd.sublist (List.drop_sublist i fl)
    rw [hd, List.nodup_cons] at nd
    have f4 := dr_facts n1 s1 d4.ok d4.oo
    unfold sp_L_spin
    walk_at "rd"
    refine ⟨_, d4.reel, by omega, fun w H5 w0 w1 o5 R5 => ite2 (fun c => ?_) fun _ => ?_⟩
    · have nKr := hR.ne d.nK
      have nFr := hR.ne d.nF
      have hK5 := o5 _ _ nKr d4.hK
      have hF5 := o5 _ _ nFr d4.hF
      refine ⟨⟨_, sq_l hK5⟩, _, hK5, fun _ => ⟨⟨_, sq_l (by rw [upd_ne (Ne.symm d.ne)]; exact hF5)⟩, fun p hp => ?_⟩, fun h => absurd hu4 h⟩
      have npF : p ≠ F := fun z => by rw [z, upd_ne (Ne.symm d.ne), hF5] at hp; cases hp
      have npK : p ≠ KL := fun z => by rw [z, upd_same] at hp; cases hp
      have fr := d4.free hR o5 R5 hu4 ⟨hu3.1, by omega⟩ (by rw [eb4]; exact hu2.2) hp
      have hG5 := o5 _ _ nGr hG4
      have npG : p ≠ G := fun z => by rw [z, upd_ne nGK, hG5] at hp; cases hp
      have ll4 : ls4.length = os4.length := by rw [d4.rF.len, List.length_map]
      refine ⟨ls4, by rw [upd_ne (Ne.symm npF), upd_ne (Ne.symm d.ne)]; exact hF5, by omega, os4 ++ [.free u], ls4 ++ [.ref p], ?_, ?_, ?_, ?_, ?_, fun x hx => ?_⟩
      · have e9 : m + 65 * (j : Int) + ((i + 1 : Nat) : Int) = m + 65 * j + i + 1 := by omega
        rw [e9]
        exact fr
      · rw [run_snoc]; exact eh4
      · rw [run_snoc]; exact eb4
      · rw [List.length_append, List.length_cons, List.length_nil]; omega
      · rw [upd_ne nGF, upd_ne (Ne.symm npG), upd_ne nGK]; exact hG5
      · rw [run_snoc]
        exact (List.mem_erase_of_ne (fun z => nd.1 (by rw [z] at hx; exact hx))).mpr (hk4 x (by rw [hd]; exact List.mem_cons_of_mem _ hx))
    · exact ⟨os4, ls4, ⟨d4.mo.trans o5, R5.up (by omega), d4.nK, d4.nF, d4.ne, o5 _ _ (hR.ne d4.nK) d4.hK, o5 _ _ (hR.ne d4.nF) d4.hF, d4.rF.keep (fun b w h1 h2 => o5 b w (hR.ne h1.1) h2) (fun _ h => h), d4.ok, d4.pe, d4.oo⟩, eh4, eb4, by omega, o5 _ _ nGr hG4, fun x hx => hk4 x (by rw [hd]; exact List.mem_cons_of_mem _ hx)⟩
  rintro σ H3 ⟨os, ls, y, z, rfl, d, eh, eb, lo⟩
  have f := dr_facts n1 s1 d.ok d.oo
  have z0 : 0 ∈ ((t0S n s).run os).kept := per_zero d.pe (by rw [eb]; show (j : Int) ≤ n - 1; omega) (List.mem_singleton.mpr rfl)
  have rn := run_n (os := os) (t := t0S n s)
  have rn1 : ((t0S n s).run os).n = n := rn.1
  have rn2 : ((t0S n s).run os).s = s := rn.2
  refine Evl.q_cut (M := fun σ' H' => ∃ h' B A os' vs y, σ' = [some (.ref r), some (.int n), some (.int s), some (.int h'), some (.ref B), some (.ref F), some (.int (n - 1 - j)), y, some (.ref A)] ∧ Mo r H3 H' ∧ Reel H' r (m + 65 * j + 64) ∧ H' A = some (.lst vs) ∧ RpA H' (New H3) vs (os'.map opD) ∧ H3 B = none ∧ H' B = some (.lst (((t0S n s).run (os ++ os')).kept.map V.int)) ∧ ((t0S n s).run os).ok os' ∧ ((t0S n s).run os).per os' ∧ ((t0S n s).run (os ++ os')).hand = h' ∧ h' = n - 1 - j ∧ ((t0S n s).run (os ++ os')).backs = j ∧ (∀ o ∈ os', opOk o) ∧ os'.length ≤ 30) ?_ ?_
  · unfold sp_L_begin
    walk_at "rd"
    refine ⟨_, _, _, _, _, _, rfl, r, rfl, KL, (t0S n s).run os, by rw [rn1], by rw [rn2], by rw [eh], rfl, by rw [rn1, eb], _, d.reel, by omega, d.hK, hR.ne d.nK, by omega, by omega, by omega, by omega, by rw [rn2]; exact f.2.2.2.2, z0, by rw [rn1]; exact f.2.2.2.1, f.2.1, by rw [rn1]; exact f.2.2.1, by omega, by omega, fun p A B vs os' H4 o4 R4 hp hA rA nB hB ok' pe' eh' eb' oo' lo' => ?_⟩
    refine ⟨p, rfl, _, hp, rfl, _, _, rfl, _, _, rfl, _, _, rfl, rfl, _, rfl, B, rfl, A, rfl, o4, R4.up (by omega), os', vs, hA, rA, nB, ?_, ok', pe', ?_, ?_, ?_, oo', lo'⟩
    · rw [run_app]; exact hB
    · rw [run_app]; exact eh'
    · rw [rn1, eb]
    · rw [run_app, eb', eb]
  rintro σ H4 ⟨h', B, A, os', vs, y, rfl, o4, R4, hA, rA, nB, hB, ok', pe', eh', eh2, eb', oo', lo'⟩
  walk_at "rd"
  have hF4 := o4 _ _ (hR.ne d.nF) d.hF
  have lv : vs.length = os'.length := by rw [rA.len, List.length_map]
  have ll : ls.length = os.length := by rw [d.rF.len, List.length_map]
  refine ⟨ls, hF4, vs, hA, by omega, fun p hp p1 hp1 p2 hp2 => ⟨_, (exn hp2) _ _ ((exn hp1) _ _ upd_same), by rw [List.length_append]; omega, fun p3 hp3 => ?_⟩⟩
  have e1 := exn (o := .lst (ls ++ vs)) hp
  have e2 := exn (o := .tup [.str "back"]) hp1
  have e3 := exn (o := .lst [.ref p1]) hp2
  have e4 := exn (o := .lst (ls ++ vs ++ [.ref p1])) hp3
  have ee := ((e1.trans e2).trans e3).trans e4
  have mo4 : Mo r H H4 := d.mo.trans o4
  have fr : ∀ {c : Addr}, H4 c = none → H c = none := fun hc => mo_none mo4 R4 hc
  have p10 : H4 p1 = none := Evl.fresh_back e1 hp1
  have p30 : H4 p3 = none := Evl.fresh_back ((e1.trans e2).trans e3) hp3
  have nBr : B ≠ r := d.reel.ne nB
  have nB0 : H B = none := mo_none d.mo d.reel nB
  have nB3 : B ≠ p3 := fun z => by rw [← z, hB] at p30; cases p30
  have n13 : p1 ≠ p3 := fun z => by
    have h := e3 p1 _ upd_same
    rw [← z, h] at hp3
    cases hp3
  have n1B : p1 ≠ B := fun z => by rw [z, hB] at p10; cases p10
  have er : ∀ o, (t0S n s).run (os ++ os' ++ [o]) = ((t0S n s).run (os ++ os')).did o := fun o => run_snoc
  have rn9 := run_n (os := os ++ os') (t := t0S n s)
  have rn91 : ((t0S n s).run (os ++ os')).n = n := rn9.1
  refine ⟨os ++ os' ++ [.back], ls ++ vs ++ [.ref p1], ⟨mo4.trans (Mo.ex ee), (R4.ex ee).up (by omega), nB0, fr p30, nB3, ?_, upd_same, ?_, ?_, ?_, fun o ho => ?_⟩, ?_, ?_, ?_, fun _ => by omega⟩
  · rw [er]
    exact ee _ _ hB
  · rw [List.map_append, List.map_append]
    have S1 := (ops_tup d.rF).keep (H' := upd (upd (upd (upd H4 p (.lst (ls ++ vs))) p1 (.tup [.str "back"])) p2 (.lst [.ref p1])) p3 (.lst (ls ++ vs ++ [.ref p1]))) (S' := fun b => New H b ∧ b ≠ p3 ∧ b ≠ B) (fun b w h1 h2 => ee _ _ (o4 b w (hR.ne h1.1.1) h2)) fun b h => by
      obtain ⟨⟨h1, _, _⟩, xs, h2⟩ := h
      have h3 := o4 b _ (hR.ne h1) h2
      exact ⟨h1, (fun z => by rw [z, p30] at h3; cases h3), fun z => by rw [z, nB] at h2; cases h2⟩
    have S2 := (ops_tup rA).keep (H' := upd (upd (upd (upd H4 p (.lst (ls ++ vs))) p1 (.tup [.str "back"])) p2 (.lst [.ref p1])) p3 (.lst (ls ++ vs ++ [.ref p1]))) (S' := fun b => New H b ∧ b ≠ p3 ∧ b ≠ B) (fun b w h1 h2 => ee _ _ h2) fun b h => by
      obtain ⟨h1, xs, h2⟩ := h
      exact ⟨mo_none d.mo d.reel h1, (fun z => by rw [z, p30] at h2; cases h2), fun z => by rw [z, hB] at h2; cases h2⟩
    refine (S1.app S2).app (.cons (op_rp ⟨fr p10, n13, n1B⟩ ?_) .nil)
    exact e4 _ _ (e3 _ _ upd_same)
  · refine (ok_app _ _ _).mpr ⟨(ok_app _ _ _).mpr ⟨d.ok, ok'⟩, ?_, trivial⟩
    show (decide (((t0S n s).run (os ++ os')).backs < ((t0S n s).run (os ++ os')).n) && decide (((t0S n s).run (os ++ os')).hand = ((t0S n s).run (os ++ os')).n - 1 - ((t0S n s).run (os ++ os')).backs)) = true
    rw [rn91, decide_eq_true (by omega), decide_eq_true (by omega)]
    rfl
  · exact (per_app _ _ _).mpr ⟨(per_app _ _ _).mpr ⟨d.pe, pe'⟩, trivial, trivial⟩
  · rcases List.mem_append.mp ho with ho | ho
    · rcases List.mem_append.mp ho with ho | ho
      · exact d.oo o ho
      · exact oo' o ho
    · rw [List.mem_singleton.mp ho]
      trivial
  · rw [er]; exact eh'
  · rw [er]
    show ((t0S n s).run (os ++ os')).backs + 1 = _
    omega
  · simp only [List.length_append, List.length_cons, List.length_nil]
    omega
/-! ### how often steps are done in a whole list -/
def sumR (f : Int → Int) : Nat → Int
  | 0 => 0
  | k + 1 => sumR f k + f (k : Nat)
theorem sumR_add {f g : Int → Int} : ∀ k : Nat, sumR (fun i => f i + g i) k = sumR f k + sumR g k
  | 0 => rfl
  | k + 1 => by
    show sumR (fun i => f i + g i) k + (f (k : Nat) + g (k : Nat)) = _
    rw [sumR_add k]
    show _ = sumR f k + f (k : Nat) + (sumR g k + g (k : Nat))
    omega
theorem sumR_congr {f g : Int → Int} : ∀ {k : Nat}, (∀ i : Nat, i < k → f i = g i) → sumR f k = sumR g k
  | 0, _ => rfl
  | k + 1, h => by
    show sumR f k + f (k : Nat) = sumR g k + g (k : Nat)
    rw [sumR_congr (k := k) fun i hi => h i (by omega), h k (by omega)]
theorem sumR_zero : ∀ k : Nat, sumR (fun _ => 0) k = 0
  | 0 => rfl
  | k + 1 => by show sumR (fun _ => 0) k + 0 = 0; rw [sumR_zero k]; rfl
theorem sumR_box (a b : Int) (h0 : 0 ≤ a) (hab : a ≤ b) : ∀ k : Nat, sumR (fun i => if a ≤ i ∧ i < b then 1 else 0) k = min b k - min a k
  | 0 => by show (0 : Int) = _; omega
  | k + 1 => by
    show sumR _ k + (if a ≤ ((k : Nat) : Int) ∧ ((k : Nat) : Int) < b then 1 else 0) = _
    rw [sumR_box a b h0 hab k]
    split <;> omega
theorem cnt_sum : ∀ {os : List Op} {t : TSt}, t.ok os → (∀ o ∈ os, opOk o) → 0 ≤ t.hand → t.hand < t.n → (∀ k ∈ t.kept, 0 ≤ k ∧ k < t.n) → sumR (fun i => t.cnt i os) (t.n - 1).toNat = (t.run os).steps - t.steps
  | [], t, _, _, _, _, _ => by
    show sumR (fun _ => 0) _ = t.steps - t.steps
    rw [sumR_zero]
    omega
  | o :: os, t, ok, oo, h0, h1, hk => by
    have b := run_bnd (os := [o]) (t := t) ⟨ok.1, trivial⟩ (fun x hx => oo x (by rw [List.mem_singleton.mp hx]; exact List.mem_cons_self ..)) h0 h1 hk
    have b1 : 0 ≤ (t.did o).hand := b.1
    have b2 : (t.did o).hand < t.n := b.2.1
    have b3 : ∀ k ∈ (t.did o).kept, 0 ≤ k ∧ k < t.n := b.2.2
    have e : (t.did o).n = t.n := by cases o <;> rfl
    have ih := cnt_sum (os := os) (t := t.did o) ok.2 (fun x hx => oo x (List.mem_cons_of_mem _ hx)) b1 (by rw [e]; exact b2) (by rw [e]; exact b3)
    rw [e] at ih
    have st : (t.run (o :: os)).steps = ((t.did o).run os).steps := rfl
    rw [st]
    cases o with
    | go k =>
      have k1 : 1 ≤ k := (oo _ (List.mem_cons_self ..)).1
      have hc : t.hand + k < t.n := of_decide_eq_true ok.1
      have e1 : sumR (fun i => t.cnt i (.go k :: os)) (t.n - 1).toNat = sumR (fun i => if t.hand ≤ i ∧ i < t.hand + k then 1 else 0) (t.n - 1).toNat + sumR (fun i => (t.did (.go k)).cnt i os) (t.n - 1).toNat := sumR_add _
      rw [e1, ih, sumR_box _ _ h0 (by omega)]
      have : (t.did (.go k)).steps = t.steps + k := rfl
      rw [this]
      omega
    | keep =>
      have e1 : sumR (fun i => t.cnt i (.keep :: os)) (t.n - 1).toNat = sumR (fun i => (t.did .keep).cnt i os) (t.n - 1).toNat := sumR_congr fun i _ => by show 0 + _ = _; omega
      rw [e1, ih]
      rfl
    | back =>
      have e1 : sumR (fun i => t.cnt i (.back :: os)) (t.n - 1).toNat = sumR (fun i => (t.did .back).cnt i os) (t.n - 1).toNat := sumR_congr fun i _ => by show 0 + _ = _; omega
      rw [e1, ih]
      rfl
    | take m =>
      have e1 : sumR (fun i => t.cnt i (.take m :: os)) (t.n - 1).toNat = sumR (fun i => (t.did (.take m)).cnt i os) (t.n - 1).toNat := sumR_congr fun i _ => by show 0 + _ = _; omega
      rw [e1, ih]
      rfl
    | free m =>
      have e1 : sumR (fun i => t.cnt i (.free m :: os)) (t.n - 1).toNat = sumR (fun i => (t.did (.free m)).cnt i os) (t.n - 1).toNat := sumR_congr fun i _ => by show 0 + _ = _; omega
      rw [e1, ih]
      rfl
theorem cnt_nonneg {x : Int} : ∀ {os : List Op} {t : TSt}, 0 ≤ t.cnt x os
  | [], _ => Int.le_refl _
  | o :: os, t => by
    have ih := cnt_nonneg (x := x) (os := os) (t := t.did o)
    cases o with
    | go k =>
      show 0 ≤ (if t.hand ≤ x ∧ x < t.hand + k then 1 else 0) + (t.did (.go k)).cnt x os
      split <;> omega
    | keep => show 0 ≤ 0 + (t.did .keep).cnt x os; omega
    | back => show 0 ≤ 0 + (t.did .back).cnt x os; omega
    | take m => show 0 ≤ 0 + (t.did (.take m)).cnt x os; omega
    | free m => show 0 ≤ 0 + (t.did (.free m)).cnt x os; omega
theorem cnt_none {x : Int} : ∀ {os : List Op} {t : TSt}, t.ok os → t.backs = 0 → x < t.n - 1 → t.hand ≤ x → (∀ k ∈ t.kept, k ≤ x) → t.cnt x os = 0 → (t.run os).backs = 0
  | [], _, _, h, _, _, _, _ => h
  | o :: os, t, ok, hb, hx, hh, hk, hc => by
    have nn := cnt_nonneg (x := x) (os := os) (t := t.did o)
    have e : (t.did o).n = t.n := by cases o <;> rfl
    have go_ : (t.did o).backs = 0 → (t.did o).hand ≤ x → (∀ k ∈ (t.did o).kept, k ≤ x) → (t.did o).cnt x os = 0 → (t.run (o :: os)).backs = 0 := fun a b c d => cnt_none (os := os) (t := t.did o) ok.2 a (by rw [e]; exact hx) b c d
    cases o with
    | go k =>
      have hc : (if t.hand ≤ x ∧ x < t.hand + k then 1 else 0) + (t.did (.go k)).cnt x os = 0 := hc
      by_cases q : x < t.hand + k
      · rw [if_pos ⟨hh, q⟩] at hc
        omega
      · rw [if_neg (fun z => q z.2)] at hc
        exact go_ hb (by show t.hand + k ≤ x; omega) hk (by omega)
    | keep =>
      have hc : 0 + (t.did .keep).cnt x os = 0 := hc
      exact go_ hb hh (fun k h => by
        rcases List.mem_append.mp h with h | h
        · exact hk k h
        · rw [List.mem_singleton.mp h]; exact hh) (by omega)
    | back =>
      have c2 := of_decide_eq_true (Bool.and_eq_true_iff.mp ok.1).2
      omega
    | take m =>
      have hc : 0 + (t.did (.take m)).cnt x os = 0 := hc
      exact go_ hb (hk m (of_decide_eq_true ok.1)) hk (by omega)
    | free m =>
      have hc : 0 + (t.did (.free m)).cnt x os = 0 := hc
      exact go_ hb hh (fun k h => hk k (List.mem_of_mem_erase h)) (by omega)
theorem cnt_pos {n s x : Int} {os : List Op} (hn : 1 ≤ n) (ok : (t0S n s).ok os) (hb : ((t0S n s).run os).backs = n) (h0 : 0 ≤ x) (h1 : x < n - 1) : 1 ≤ (t0S n s).cnt x os := by
  have a := cnt_nonneg (x := x) (os := os) (t := t0S n s)
  by_cases z : (t0S n s).cnt x os = 0
  · have := cnt_none ok rfl (by show x < n - 1; omega) h0 (fun k hk => by rw [List.mem_singleton.mp hk]; exact h0) z
    omega
  · omega
/-- with slots more -/
theorem ok_more : ∀ {os : List Op} {t u : TSt}, t.n = u.n → t.s ≤ u.s → t.hand = u.hand → t.kept = u.kept → t.backs = u.backs → t.steps = u.steps → t.ok os → u.ok os ∧ (u.run os).backs = (t.run os).backs ∧ (u.run os).steps = (t.run os).steps
  | [], _, _, _, _, _, _, hb, hs, _ => ⟨trivial, hb.symm, hs.symm⟩
  | o :: os, t, u, h1, h2, h3, h4, h5, h6, ok => by
    have c : u.can o = true := by
      have c := ok.1
      cases o with
      | go k => exact decide_eq_true (by have := of_decide_eq_true c; omega)
      | keep =>
        obtain ⟨c1, c2⟩ := Bool.and_eq_true_iff.mp c
        have c1 := of_decide_eq_true c1
        have c2 := of_decide_eq_true c2
        show (decide _ && decide _) = true
        rw [decide_eq_true (by rw [← h3, ← h4]; exact c1), decide_eq_true (by rw [← h4]; omega)]
        rfl
      | back =>
        obtain ⟨c1, c2⟩ := Bool.and_eq_true_iff.mp c
        have c1 := of_decide_eq_true c1
        have c2 := of_decide_eq_true c2
        show (decide _ && decide _) = true
        rw [decide_eq_true (by omega), decide_eq_true (by omega)]
        rfl
      | take m => exact decide_eq_true (by rw [← h4]; exact of_decide_eq_true c)
      | free m => exact decide_eq_true (by rw [← h4]; exact of_decide_eq_true c)
    have r : u.ok (o :: os) ↔ u.can o = true ∧ (u.did o).ok os := Iff.rfl
    have k : (u.did o).ok os ∧ ((u.did o).run os).backs = ((t.did o).run os).backs ∧ ((u.did o).run os).steps = ((t.did o).run os).steps := by
      cases o with
      | go k => exact ok_more (t := t.did (.go k)) h1 h2 (by show t.hand + k = u.hand + k; rw [h3]) h4 h5 (by show t.steps + k = u.steps + k; rw [h6]) ok.2
      | keep => exact ok_more (t := t.did .keep) h1 h2 h3 (by show t.kept ++ [t.hand] = u.kept ++ [u.hand]; rw [h3, h4]) h5 h6 ok.2
      | back => exact ok_more (t := t.did .back) h1 h2 h3 h4 (by show t.backs + 1 = u.backs + 1; rw [h5]) h6 ok.2
      | take m => exact ok_more (t := t.did (.take m)) h1 h2 rfl h4 h5 h6 ok.2
      | free m => exact ok_more (t := t.did (.free m)) h1 h2 h3 (by show t.kept.erase m = u.kept.erase m; rw [h4]) h5 h6 ok.2
    exact ⟨⟨c, k.1⟩, k.2⟩
/-! ### the law -/
theorem range_sumR (f : Int → Int) : ∀ k : Nat, ((List.range k).map fun (i : Nat) => f (i : Int)).sum = sumR f k
  | 0 => rfl
  | k + 1 => by
    rw [List.range_succ, List.map_append, List.sum_append, range_sumR f k]
    show sumR f k + (f (k : Nat) + 0) = sumR f k + f (k : Nat)
    omega
theorem pb_small {n s : Int} (hn : 1 ≤ n) (h2 : n ≤ 1000) (hs : 1 ≤ s) (hs2 : s ≤ 100) : PB n s :=
  ⟨hn, by omega, hs, hs2, by have := rho_lt hn hs; omega⟩
def sp_L_right (K : PySem.W.Frag) : Sp := sp1 fun x H Q _ => ∃ (r : Addr) (m : Int), x = .ref r ∧ Reel H r m ∧ m ≤ 10 ^ 20 ∧ ∀ H', Mo r H H' → Reel H' r (m + 800) → Q (.bl true) H'
theorem sc_L_right : FnScope ["_law_reel", "_law_n", "_law_s", "_law_operations", "_law_steps", "_law_times", "_law_best", "_law_step", "_law_some"] ["_law_reel"] (defScope s_L_right) := ⟨rfl, rfl, rfl, by decide +kernel, rfl, by decide +kernel, by decide +kernel⟩
theorem ok_L_right (T : Txt P w K mg base) : FnOk P w K mg base (L2.CX P w) 8 T.a_L_right T.fd_L_right ["_law_reel"] (sp_L_right K) := by
  refine FunD.ok T.F_L_right sc_L_right (fun vs H Q E h => ar1 h) (fun cdv A fr s H vs Q E hr h => ⟨_, PSs.nox (Evl.pss_cut (ps_asg (pe_tup (pa_cons (pe_op op_add pe_int (pe_call (ok_L_spin T) (hr.mono (by decide)) (by rfl) T.g_L_spin T.F_L_spin.kp T.b_L_spin .nil passL (pa_cons (pv 0) (pa_cons pe_int pa_nil)))) (pa_cons (pe_op op_add pe_int (pe_call (ok_L_spin T) (hr.mono (by decide)) (by rfl) T.g_L_spin T.F_L_spin.kp T.b_L_spin .nil passL (pa_cons (pv 0) (pa_cons pe_int pa_nil)))) pa_nil))) (pg_tupT (n := 2) rfl (pgs_cons (pg_name (i := 1) sc_L_right.nd rfl (.inr rfl)) (pgs_cons (pg_name (i := 2) sc_L_right.nd rfl (.inr rfl)) pgs_nil)))) (Evl.pss_cut (ps_set (i := 3) sc_L_right.nd rfl (.inr rfl) (pe_call (ok_L_drawn_list T) (hr.mono (by decide)) (by rfl) T.g_L_drawn_list T.F_L_drawn_list.kp T.b_L_drawn_list .nil passL (pa_cons (pv 0) (pa_cons (pv 1) (pa_cons (pv 2) pa_nil))))) (Evl.pss_cut (ps_if (PW.pt (pw_or (pt_cmpR op_notN (pe_call (ok_first_wrong T) (hr.mono (by decide)) (by rfl) T.g_first_wrong T.F_first_wrong.kp T.b_first_wrong .nil passL (pa_cons (pv 1) (pa_cons (pv 2) (pa_cons (pv 3) pa_nil)))) pe_non (nomark _)) (pw_or1 (pt_cmpR op_ne (pe_call (ok_backs_of T) hr (by rfl) T.g_backs_of T.F_backs_of.kp T.b_backs_of .nil passL (pa_cons (pv 1) (pa_cons (pv 2) (pa_cons (pv 3) pa_nil)))) (pv 1) (nomark _))))) (pss_one (ps_ret pe_bl)) pss_nil) (Evl.pss_cut (ps_set (i := 4) sc_L_right.nd rfl (.inl rfl) (pe_call (ok_steps_of T) hr (by rfl) T.g_steps_of T.F_steps_of.kp T.b_steps_of .nil passL (pa_cons (pv 1) (pa_cons (pv 2) (pa_cons (pv 3) pa_nil))))) (Evl.pss_cut (ps_setLc (i := 5) (own := [("_law_step", 7)]) rfl sc_L_right.nd rfl rfl (sw_true rfl rfl rfl (by decide +kernel)) (pi_range1 (by rfl) T.n_range (pa_cons (pe_op op_sub (pv 1) pe_int) pa_nil)) (blkOk_by (N := ["_law_reel", "_law_n", "_law_s", "_law_operations", "_law_steps", "_law_times", "_law_best", "_law_step", "_law_some"]) (sc := defScope s_L_right) (by decide +kernel)) (fun _ _ _ _ _ => (pg_name (i := 7) sc_L_right.nd rfl (Or.inl rfl))) (fun _ _ _ _ _ => pts_nil) (fun _ _ _ _ _ => (pe_call (ok_times_in T) hr (by rfl) T.g_times_in T.F_times_in.kp T.b_times_in .nil passL (pa_cons (pv 1) (pa_cons (pv 2) (pa_cons (pv 3) (pa_cons (pv 7) pa_nil))))))) (Evl.pss_cut (ps_if (PW.pt (pw_or (pt_cmpR op_ne (pe_callB (r := rSum K) (cr_sum rfl) (by rfl) T.n_sum (by decide +kernel) (pa_cons (pv 5) pa_nil)) (pv 4) (nomark _)) (pw_or1 (pt_cmpR (r := rNeF K) (op_neF hr) (pe_lc (own := [("_law_some", 8)]) rfl sc_L_right.nd (pi_list (pv 5)) (blkOk_by (N := ["_law_reel", "_law_n", "_law_s", "_law_operations", "_law_steps", "_law_times", "_law_best", "_law_step", "_law_some"]) (sc := defScope s_L_right) (by decide +kernel)) (fun _ _ _ _ _ => (pg_name (i := 8) sc_L_right.nd rfl (Or.inl rfl))) (fun _ _ _ _ _ => (pts_one (pt_cmpR op_lt (pv 8) pe_int (nomark _)))) (fun _ _ _ _ _ => pe_int)) (pe_lst pa_nil) (nomark _))))) (pss_one (ps_ret pe_bl)) pss_nil) (Evl.pss_cut (ps_if (PW.pt (pw_or (pt_cmpR op_ne (pe_call (ok_extra_steps T) hr (by rfl) T.g_extra_steps T.F_extra_steps.kp T.b_extra_steps .nil passL (pa_cons (pv 1) (pa_cons (pv 2) (pa_cons (pv 3) pa_nil)))) (pe_op op_sub (pv 4) (pe_call (ok_least_steps T) (hr.mono (by decide)) (by rfl) T.g_least_steps T.F_least_steps.kp T.b_least_steps .nil passL (pa_cons (pv 1) (pa_cons (pv 2) pa_nil)))) (nomark _)) (pw_or1 (pt_cmpR op_lt (pv 4) (pe_call (ok_least_steps T) (hr.mono (by decide)) (by rfl) T.g_least_steps T.F_least_steps.kp T.b_least_steps .nil passL (pa_cons (pv 1) (pa_cons (pv 2) pa_nil))) (nomark _))))) (pss_one (ps_ret pe_bl)) pss_nil) (Evl.pss_cut (ps_if (PW.pt (pw_or (pt_not (pt_chain op_le op_le pe_int (pe_call (ok_most_kept T) hr (by rfl) T.g_most_kept T.F_most_kept.kp T.b_most_kept .nil passL (pa_cons (pv 1) (pa_cons (pv 2) (pa_cons (pv 3) pa_nil)))) (pv 2))) (pw_or1 (pt_cmpR op_ne (pe_ix ix_tupT (pe_call (ok_kept_behind T) hr (by rfl) T.g_kept_behind T.F_kept_behind.kp T.b_kept_behind .nil passL (pa_cons (pv 1) (pa_cons (pv 2) (pa_cons (pv 3) pa_nil)))) pe_int (fun _ _ => rfl)) pe_int (nomark _))))) (pss_one (ps_ret pe_bl)) pss_nil) (Evl.pss_cut (ps_set (i := 6) sc_L_right.nd rfl (.inl rfl) (pe_call (ok_plan_list T) (hr.mono (by decide)) (by rfl) T.g_plan_list T.F_plan_list.kp T.b_plan_list .nil passL (pa_cons (pv 1) (pa_cons (pv 2) pa_nil)))) (Evl.pss_cut (ps_if (PW.pt (pw_or (pt_cmpR op_ne (pe_call (ok_extra_steps T) hr (by rfl) T.g_extra_steps T.F_extra_steps.kp T.b_extra_steps .nil passL (pa_cons (pv 1) (pa_cons (pv 2) (pa_cons (pv 6) pa_nil)))) pe_int (nomark _)) (pw_or1 (pt_cmpR op_gt (pe_call (ok_steps_of T) hr (by rfl) T.g_steps_of T.F_steps_of.kp T.b_steps_of .nil passL (pa_cons (pv 1) (pa_cons (pv 2) (pa_cons (pv 6) pa_nil)))) (pv 4) (nomark _))))) (pss_one (ps_ret pe_bl)) pss_nil) (pss_one (ps_ret (pe_chain op_eq op_ge (pe_call (ok_extra_steps T) hr (by rfl) T.g_extra_steps T.F_extra_steps.kp T.b_extra_steps .nil passL (pa_cons (pv 1) (pa_cons (pe_op op_add (pv 2) pe_int) (pa_cons (pv 3) pa_nil)))) (pe_op op_sub (pv 4) (pe_call (ok_least_steps T) (hr.mono (by decide)) (by rfl) T.g_least_steps T.F_least_steps.kp T.b_least_steps .nil passL (pa_cons (pv 1) (pa_cons (pe_op op_add (pv 2) pe_int) pa_nil)))) (pe_op op_sub (pv 4) (pe_call (ok_least_steps T) (hr.mono (by decide)) (by rfl) T.g_least_steps T.F_least_steps.kp T.b_least_steps .nil passL (pa_cons (pv 1) (pa_cons (pv 2) pa_nil))))))))))))))))), ?_⟩)
  obtain ⟨_, rfl, r, m, rfl, hR, hm, q⟩ := h
  refine Evl.q_cut (M := fun σ' H' => ∃ n s, σ' = [some (.ref r), some (.int n), some (.int s), none, none, none, none, none, none] ∧ 1 ≤ n ∧ n ≤ 10 ∧ 1 ≤ s ∧ s ≤ 4 ∧ Mo r H H' ∧ Reel H' r (m + 2)) ?_ ?_
  · unfold sp_L_spin
    walk_at "rd"
    refine ⟨m, hR, by omega, fun z H1 z0 z1 o1 R1 => ⟨m + 1, R1, by omega, fun y H2 y0 y1 o2 R2 p hp => ?_⟩⟩
    exact ⟨by omega, by omega, by omega, by omega, (o1.trans o2).trans (Mo.ex (exn hp)), (R2.ex (exn hp)).up (by omega)⟩
  rintro σ H1 ⟨n, s, rfl, n1, n2, s1, s2, o1, R1⟩
  refine Evl.q_cut (M := fun σ' H' => ∃ F os, σ' = [some (.ref r), some (.int n), some (.int s), some (.ref F), none, none, none, none, none] ∧ Mo r H1 H' ∧ Reel H' r (m + 702) ∧ OpL H' F os ∧ (t0S n s).ok os ∧ (t0S n s).per os ∧ ((t0S n s).run os).backs = n ∧ ((t0S n s).run os).hand = 0 ∧ F ≠ r) ?_ ?_
  · unfold sp_L_drawn_list
    walk_at "rd"
    exact ⟨m + 2, R1, by omega, n1, n2, s1, s2, fun F os ls H2 o2 R2 nF hF rF ok pe eb eh oo lo => ⟨o2, R2.up (by omega), os, ⟨ls, hF, rF.sub fun _ _ => trivial, oo, lo⟩, ok, pe, eb, eh, R1.ne nF⟩⟩
  rintro σ H2 ⟨F, os, rfl, o2, R2, oF, ok, pe, eb, eh, nF⟩
  have n30 : n ≤ 10 ^ 30 := by omega
  have C : ∀ {Hx : Hp} {Pos : Int → Int → List Op → Prop}, Ex H2 Hx → Pos n s os → Can Hx (.int n) (.int s) (.ref F) Pos := fun e p => ⟨n, s, F, os, rfl, rfl, rfl, oF.ex e, n1, n30, s1, by omega, ok, p⟩
  refine Evl.q_cut (M := fun σ' H' => σ' = [some (.ref r), some (.int n), some (.int s), some (.ref F), none, none, none, none, none] ∧ Ex H2 H') ?_ ?_
  · unfold sp_first_wrong sp_backs_of
    walk_at "rd"
    refine ⟨os, oF, n1, n30, s1, by omega, fun H3 e3 => ?_⟩
    rw [ok_fw ok]
    refine iteNo (fun z => z rfl) (C e3 fun H4 e4 => iteNo (fun z => z eb) (e3.trans e4))
  rintro σ H3 ⟨rfl, e3⟩
  refine Evl.q_cut (M := fun σ' H' => σ' = [some (.ref r), some (.int n), some (.int s), some (.ref F), some (.int ((t0S n s).run os).steps), none, none, none, none] ∧ Ex H3 H') ?_ ?_
  · unfold sp_steps_of
    walk_at "rd"
    exact C e3 fun H4 e4 => ⟨rfl, e4⟩
  rintro σ H4 ⟨rfl, e4⟩
  have e34 := e3.trans e4
  refine Evl.q_cut (M := fun σ' H' => ∃ TT, σ' = [some (.ref r), some (.int n), some (.int s), some (.ref F), some (.int ((t0S n s).run os).steps), some (.ref TT), none, none, none] ∧ Ex H4 H' ∧ H' TT = some (.lst (((List.range (n - 1).toNat).map fun (i : Nat) => (t0S n s).cnt (i : Int) os).map V.int))) ?_ ?_
  · unfold sp_times_in
    walk_at "rd"
    refine lc_rng (n := (n - 1).toNat) (fun i => .int ((t0S n s).cnt (i : Int) os)) (fun R q => ?_) (by omega) (fun _ => rfl) (fun i H5 hi e R k => ?_) ?_
    · walk_at "rd"
      rw [show (((n - 1).toNat : Nat) : Int) = n - 1 by omega] at q
      exact q
    · simp only [wipe]
      walk_at "rd"
      exact ⟨by omega, C (e34.trans e) ⟨by omega, fun H6 e6 => k _ H6 e6 (.int _)⟩⟩
    · intro v H5 e5 hv
      have hv2 : Rp H5 (New H4) v (.list (((List.range (n - 1).toNat).map fun (i : Nat) => (t0S n s).cnt (i : Int) os).map PyData.int)) := by rw [List.map_map]; exact hv
      obtain ⟨TT, rfl, _, hT⟩ := hv2.ints
      exact ⟨TT, rfl, e5, hT⟩
  rintro σ H5 ⟨TT, rfl, e5, hTT⟩
  have e25 := e34.trans e5
  refine Evl.q_cut (M := fun σ' H' => σ' = [some (.ref r), some (.int n), some (.int s), some (.ref F), some (.int ((t0S n s).run os).steps), some (.ref TT), none, none, none] ∧ Ex H5 H') ?_ ?_
  · walk_at "rd"
    simp only [tLc_lst]
    walk_at "rd"
    have sm : ((List.range (n - 1).toNat).map fun (i : Nat) => (t0S n s).cnt (i : Int) os).sum = ((t0S n s).run os).steps := by
      rw [range_sumR (fun i => (t0S n s).cnt i os)]
      have h := cnt_sum ok oF.choose_spec.2.2.1 (Int.le_refl _) (by show (0 : Int) < n; omega) (fun k hk => by rw [List.mem_singleton.mp hk]; exact ⟨Int.le_refl _, by show (0 : Int) < n; omega⟩)
      have h2 : sumR (fun i => (t0S n s).cnt i os) (n - 1).toNat = ((t0S n s).run os).steps - 0 := h
      rw [h2]
      omega
    refine ⟨TT, _, rfl, sq_l hTT, rfl, iteNo (fun z => z (by rw [sm])) ?_⟩
    have pos : ∀ i : Nat, i < (n - 1).toNat → 1 ≤ (t0S n s).cnt (i : Int) os := fun i hi => cnt_pos n1 ok eb (by omega) (by omega)
    refine lcL_g (xs := _) (sq_l hTT) (fun _ => false) (fun _ => .none) (by rw [List.length_map, List.length_map, List.length_range]; omega) ?_ ?_
    · intro i v H6 hx e6 R Rt k1 k2
      rw [List.getElem?_map, List.getElem?_map] at hx
      obtain ⟨z, hz, rfl⟩ := Option.map_eq_some_iff.mp hx
      obtain ⟨u, hu, rfl⟩ := Option.map_eq_some_iff.mp hz
      obtain ⟨hi, rfl⟩ := List.getElem?_eq_some_iff.mp hu
      rw [List.length_range] at hi
      simp only [wipe]
      walk_at "rd"
      refine iteNo ?_ (k1 rfl H6 (.refl _))
      rw [List.getElem_range]
      have := pos i hi
      omega
    · intro v H6 e6 hv p hp
      rw [List.filter_eq_nil_iff.mpr (fun _ _ => by decide)] at hv
      obtain ⟨a, xs, rfl, _, ha, rx, lx⟩ := rp_list hv
      refine ⟨.list [], (hv.ex (exn hp)).dp, .list [], .lst (sq_l upd_same) .nil, rfl, rfl, ?_⟩
      exact iteNo (by decide +kernel) (e6.trans (exn hp))
  rintro σ H6 ⟨rfl, e6⟩
  have e26 := e25.trans e6
  have ws := whole_steps n1 s1 ok pe eb
  refine Evl.q_cut (M := fun σ' H' => σ' = [some (.ref r), some (.int n), some (.int s), some (.ref F), some (.int ((t0S n s).run os).steps), some (.ref TT), none, none, none] ∧ Ex H6 H') ?_ ?_
  · unfold sp_extra_steps sp_least_steps
    walk_at "rd"
    exact C e26 ⟨eb, fun H7 e7 => ⟨n1, n30, s1, by omega, fun H8 e8 => iteNo (fun z => z rfl) ⟨n1, n30, s1, by omega, fun H9 e9 => iteNo (by have : tz n s ≤ ((t0S n s).run os).steps := ws; omega) ((e7.trans e8).trans e9)⟩⟩⟩
  rintro σ H7 ⟨rfl, e7⟩
  have e27 := e26.trans e7
  refine Evl.q_cut (M := fun σ' H' => σ' = [some (.ref r), some (.int n), some (.int s), some (.ref F), some (.int ((t0S n s).run os).steps), some (.ref TT), none, none, none] ∧ Ex H7 H') ?_ ?_
  · unfold sp_most_kept sp_kept_behind
    walk_at "rd"
    refine C e27 fun H8 m2 e8 hj mx => ?_
    have k1 : (1 : Int) ≤ m2 := mx 0 (Nat.zero_le _)
    have k2 : m2 ≤ s := by
      obtain ⟨j, _, rfl⟩ := hj
      have okj : (t0S n s).ok (os.take j) := by
        have := ok
        rw [← List.take_append_drop j os, ok_app] at this
        exact this.1
      exact kept_leq okj (by show ((1 : Nat) : Int) ≤ s; omega)
    refine iteY k1 (iteNo (fun z => z k2) (C (e27.trans e8) fun H9 p a zs e9 np na npa hp ha pm so => ⟨_, hp, _, atI_0, rfl, iteNo (fun z => z (by rw [eh])) (e8.trans e9)⟩))
  rintro σ H8 ⟨rfl, e8⟩
  have e28 := e27.trans e8
  refine Evl.q_cut (M := fun σ' H' => ∃ B, σ' = [some (.ref r), some (.int n), some (.int s), some (.ref F), some (.int ((t0S n s).run os).steps), some (.ref TT), some (.ref B), none, none] ∧ Ex H8 H' ∧ OpL H' B (opsL n s 0)) ?_ ?_
  · unfold sp_plan_list
    walk_at "rd"
    have g := opsN_ge n s n1 s1
    refine ⟨pb_small n1 (by omega) s1 (by omega), fun l v H9 e9 hv => ?_, fun l => by omega⟩
    obtain ⟨B, rfl, oB⟩ := plan_opl n1 n30 s1 l hv
    exact ⟨B, rfl, e9, oB⟩
  rintro σ H9 ⟨B, rfl, e9, oB⟩
  have e29 := e28.trans e9
  refine Evl.q_cut (M := fun σ' H' => σ' = [some (.ref r), some (.int n), some (.int s), some (.ref F), some (.int ((t0S n s).run os).steps), some (.ref TT), some (.ref B), none, none] ∧ Ex H9 H') ?_ ?_
  · unfold sp_extra_steps sp_steps_of
    walk_at "rd"
    have okp := plan_ok n1 s1
    have pr := plan_run n1 s1
    refine ⟨n, s, B, opsL n s 0, rfl, rfl, rfl, oB, n1, n30, s1, by omega, okp, pr.2, fun H10 e10 => iteNo (fun z => z (by rw [pr.1]; omega)) ?_⟩
    refine ⟨n, s, B, opsL n s 0, rfl, rfl, rfl, oB.ex e10, n1, n30, s1, by omega, okp, fun H11 e11 => iteNo (by rw [pr.1]; have : tz n s ≤ ((t0S n s).run os).steps := ws; omega) (e10.trans e11)⟩
  rintro σ H10 ⟨rfl, e10⟩
  unfold sp_extra_steps sp_least_steps
  walk_at "rd"
  obtain ⟨okm, bm, sm⟩ := ok_more (t := t0S n s) (u := t0S n (s + 2)) rfl (by show s ≤ s + 2; omega) rfl rfl rfl rfl ok
  refine ⟨n, s + 2, F, os, rfl, rfl, rfl, oF.ex (e29.trans e10), n1, n30, by omega, by omega, okm, by rw [bm]; exact eb, fun H11 e11 => ⟨n1, n30, by omega, by omega, fun H12 e12 => iteY (by rw [sm]) ⟨n1, n30, s1, by omega, fun H13 e13 => ?_⟩⟩⟩
  have an := tz_anti2 (n := n) (s := s) (s' := s + 2) n1 s1 (by omega)
  rw [decide_eq_true (by omega)]
  have ee := ((e29.trans e10).trans (e11.trans e12)).trans e13
  exact q H13 ((o1.trans o2).trans (Mo.ex ee)) ((R2.ex ee).up (by omega))
def sp_law (K : PySem.W.Frag) : Sp := sp1 fun x H Q _ => ∃ (a : Addr) (ns : List Int), x = .ref a ∧ SqL K H a (ns.map V.int) ∧ ns.length ≤ 63 ∧ ∀ H', Q (.bl true) H'
theorem sc_law : FnScope ["_law_script", "_law_k", "_law_reel", "_law_turn"] ["_law_script"] (defScope s_law) := ⟨rfl, rfl, rfl, by decide +kernel, rfl, by decide +kernel, by decide +kernel⟩
theorem ok_law (T : Txt P w K mg base) : FnOk P w K mg base (L2.CX P w) 9 T.a_law T.fd_law ["_law_script"] (sp_law K) := by
  refine FunD.ok T.F_law sc_law (fun vs H Q E h => ar1 h) (fun cdv A fr s H vs Q E hr h => ⟨_, PSs.nox (pss_cons (ps_for PassesOwn.never rfl (pi_range1 (by rfl) T.n_range (pa_cons (pe_callB (call_max2 rfl) (by rfl) T.n_max (by decide +kernel) (pa_cons pe_int (pa_cons (pe_callB (call_min2 rfl) (by rfl) T.n_min (by decide +kernel) (pa_cons pe_int (pa_cons (pe_callB (r := rLenQ K) call_lenQ (by rfl) T.n_len (by decide +kernel) (pa_cons (pv 0) pa_nil)) pa_nil))) pa_nil))) pa_nil)) (pg_name (i := 1) sc_law.nd rfl (.inl rfl)) (pss_cons (ps_set (i := 2) sc_law.nd rfl (.inl rfl) (pe_call (ok_L_wound T) (hr.mono (by decide)) (by rfl) T.g_L_wound T.F_L_wound.kp T.b_L_wound .nil passL (pa_cons (pv 0) (pa_cons (pv 1) pa_nil)))) (pss_one (ps_for PassesOwn.never rfl (pi_range1 (by rfl) T.n_range (pa_cons pe_int pa_nil)) (pg_name (i := 3) sc_law.nd rfl (.inl rfl)) (pss_one (ps_if (pt_not (pt_val (pe_call (ok_L_right T) hr (by rfl) T.g_L_right T.F_L_right.kp T.b_L_right .nil passL (pa_cons (pv 2) pa_nil)))) (pss_one (ps_ret pe_bl)) pss_nil)))))) (pss_one (ps_ret pe_bl))), ?_⟩)
  obtain ⟨_, rfl, a, ns, rfl, hS, hl, q⟩ := h
  walk_at "rd"
  apply for_rng1 (if ns.length = 0 then 1 else min 4 ns.length) (Pv := fun i σ H' => Ex H H' ∧ ∃ x y z, σ = [some (.ref a), x, y, z])
  · intro R q
    walk_at "rd"
    refine ⟨_, .inl hS, ?_⟩
    exact q
  · rw [List.length_map]; split <;> split <;> split <;> omega
  · rw [List.length_map]; split <;> split <;> omega
  · exact ⟨Evl.Ex.refl _, _, _, _, rfl⟩
  · rintro σ H3 ⟨e3, x, y, z, rfl⟩
    walk_at "rd"
    exact q H3
  · rintro i σ H3 hi ⟨e3, x, y, z, rfl⟩
    unfold sp_L_wound
    walk_at "rd"
    refine ⟨_, _, rfl, Evl.ex_l e3 hS, hl, by split at hi <;> omega, fun r H4 hr4 e4 R4 => ?_⟩
    refine for_rng1 6 (fun R q => by walk_at "rd"; exact q) (by omega) (by omega) (fun j σ H' => Mo r H4 H' ∧ Reel H' r (800 * j) ∧ ∃ z, σ = [some (.ref a), some (.int i), some (.ref r), z]) ⟨Mo.refl _ _, R4.up (by omega), _, rfl⟩ ?_ ?_
    · rintro σ H5 ⟨o5, R5, z, rfl⟩
      exact ⟨Mo.ex_new (e3.trans e4) (Evl.fresh_back e3 hr4) o5, _, _, _, rfl⟩
    · rintro j σ H5 hj ⟨o5, R5, z, rfl⟩
      unfold sp_L_right
      walk_at "rd"
      exact ⟨_, R5, by omega, fun H6 o6 R6 => ⟨o5.trans o6, R6.up (by omega)⟩⟩
end
def d_is_int : He.DefD := ⟨("is_int", none), "is_int", "is_int", defArgs s_is_int, defBody s_is_int, defScope s_is_int, [], []⟩
def d_is_whole : He.DefD := ⟨("is_whole", none), "is_whole", "is_whole", defArgs s_is_whole, defBody s_is_whole, defScope s_is_whole, [], []⟩
def d_InvalidOperations___init__ : He.DefD := ⟨("InvalidOperations", some "__init__"), "__init__", "InvalidOperations.__init__", defArgs s_InvalidOperations___init__, defBody s_InvalidOperations___init__, defScope s_InvalidOperations___init__, [], []⟩
def d_CannotDo___init__ : He.DefD := ⟨("CannotDo", some "__init__"), "__init__", "CannotDo.__init__", defArgs s_CannotDo___init__, defBody s_CannotDo___init__, defScope s_CannotDo___init__, [], []⟩
def d_TooLarge___init__ : He.DefD := ⟨("TooLarge", some "__init__"), "__init__", "TooLarge.__init__", defArgs s_TooLarge___init__, defBody s_TooLarge___init__, defScope s_TooLarge___init__, [], []⟩
def d_TooDeep___init__ : He.DefD := ⟨("TooDeep", some "__init__"), "__init__", "TooDeep.__init__", defArgs s_TooDeep___init__, defBody s_TooDeep___init__, defScope s_TooDeep___init__, [], []⟩
def d_require_length : He.DefD := ⟨("require_length", none), "require_length", "require_length", defArgs s_require_length, defBody s_require_length, defScope s_require_length, [], []⟩
def d_require_slots : He.DefD := ⟨("require_slots", none), "require_slots", "require_slots", defArgs s_require_slots, defBody s_require_slots, defScope s_require_slots, [], []⟩
def d_require_task : He.DefD := ⟨("require_task", none), "require_task", "require_task", defArgs s_require_task, defBody s_require_task, defScope s_require_task, [], []⟩
def d_reach_of : He.DefD := ⟨("reach_of", none), "reach_of", "reach_of", defArgs s_reach_of, defBody s_reach_of, defScope s_reach_of, [], []⟩
def d_rounds_of : He.DefD := ⟨("rounds_of", none), "rounds_of", "rounds_of", defArgs s_rounds_of, defBody s_rounds_of, defScope s_rounds_of, [], []⟩
def d_steps_with : He.DefD := ⟨("steps_with", none), "steps_with", "steps_with", defArgs s_steps_with, defBody s_steps_with, defScope s_steps_with, [], []⟩
def d_least_of : He.DefD := ⟨("least_of", none), "least_of", "least_of", defArgs s_least_of, defBody s_least_of, defScope s_least_of, [], []⟩
def d_least_steps : He.DefD := ⟨("least_steps", none), "least_steps", "least_steps", defArgs s_least_steps, defBody s_least_steps, defScope s_least_steps, [], []⟩
def d_is_operation : He.DefD := ⟨("is_operation", none), "is_operation", "is_operation", defArgs s_is_operation, defBody s_is_operation, defScope s_is_operation, [], []⟩
def d_require_operations : He.DefD := ⟨("require_operations", none), "require_operations", "require_operations", defArgs s_require_operations, defBody s_require_operations, defScope s_require_operations, [], []⟩
def d_Trace___init__ : He.DefD := ⟨("Trace", some "__init__"), "__init__", "Trace.__init__", defArgs s_Trace___init__, defBody s_Trace___init__, defScope s_Trace___init__, [], []⟩
def d_Trace_hand : He.DefD := ⟨("Trace", some "hand"), "hand", "Trace.hand", defArgs s_Trace_hand, defBody s_Trace_hand, defScope s_Trace_hand, [], []⟩
def d_Trace_kept : He.DefD := ⟨("Trace", some "kept"), "kept", "Trace.kept", defArgs s_Trace_kept, defBody s_Trace_kept, defScope s_Trace_kept, [], []⟩
def d_Trace_steps : He.DefD := ⟨("Trace", some "steps"), "steps", "Trace.steps", defArgs s_Trace_steps, defBody s_Trace_steps, defScope s_Trace_steps, [], []⟩
def d_Trace_backs : He.DefD := ⟨("Trace", some "backs"), "backs", "Trace.backs", defArgs s_Trace_backs, defBody s_Trace_backs, defScope s_Trace_backs, [], []⟩
def d_Trace_copied : He.DefD := ⟨("Trace", some "copied"), "copied", "Trace.copied", defArgs s_Trace_copied, defBody s_Trace_copied, defScope s_Trace_copied, [], []⟩
def d_Trace_can_do : He.DefD := ⟨("Trace", some "can_do"), "can_do", "Trace.can_do", defArgs s_Trace_can_do, defBody s_Trace_can_do, defScope s_Trace_can_do, [], []⟩
def d_Trace_do : He.DefD := ⟨("Trace", some "do"), "do", "Trace.do", defArgs s_Trace_do, defBody s_Trace_do, defScope s_Trace_do, [], []⟩
def d_require_list : He.DefD := ⟨("require_list", none), "require_list", "require_list", defArgs s_require_list, defBody s_require_list, defScope s_require_list, [], []⟩
def d_wrong_of : He.DefD := ⟨("wrong_of", none), "wrong_of", "wrong_of", defArgs s_wrong_of, defBody s_wrong_of, defScope s_wrong_of, [], []⟩
def d_traces_of : He.DefD := ⟨("traces_of", none), "traces_of", "traces_of", defArgs s_traces_of, defBody s_traces_of, defScope s_traces_of, [], []⟩
def d_first_wrong : He.DefD := ⟨("first_wrong", none), "first_wrong", "first_wrong", defArgs s_first_wrong, defBody s_first_wrong, defScope s_first_wrong, [], []⟩
def d_steps_of : He.DefD := ⟨("steps_of", none), "steps_of", "steps_of", defArgs s_steps_of, defBody s_steps_of, defScope s_steps_of, [], []⟩
def d_backs_of : He.DefD := ⟨("backs_of", none), "backs_of", "backs_of", defArgs s_backs_of, defBody s_backs_of, defScope s_backs_of, [], []⟩
def d_extra_steps : He.DefD := ⟨("extra_steps", none), "extra_steps", "extra_steps", defArgs s_extra_steps, defBody s_extra_steps, defScope s_extra_steps, [], []⟩
def d_most_kept : He.DefD := ⟨("most_kept", none), "most_kept", "most_kept", defArgs s_most_kept, defBody s_most_kept, defScope s_most_kept, [], []⟩
def d_times_in : He.DefD := ⟨("times_in", none), "times_in", "times_in", defArgs s_times_in, defBody s_times_in, defScope s_times_in, [], []⟩
def d_kept_behind : He.DefD := ⟨("kept_behind", none), "kept_behind", "kept_behind", defArgs s_kept_behind, defBody s_kept_behind, defScope s_kept_behind, [], []⟩
def d_closed_count : He.DefD := ⟨("closed_count", none), "closed_count", "closed_count", defArgs s_closed_count, defBody s_closed_count, defScope s_closed_count, [], []⟩
def d_halves_of : He.DefD := ⟨("halves_of", none), "halves_of", "halves_of", defArgs s_halves_of, defBody s_halves_of, defScope s_halves_of, [], []⟩
def d_own_operations : He.DefD := ⟨("own_operations", none), "own_operations", "own_operations", defArgs s_own_operations, defBody s_own_operations, defScope s_own_operations, [], []⟩
def d_count_of : He.DefD := ⟨("count_of", none), "count_of", "count_of", defArgs s_count_of, defBody s_count_of, defScope s_count_of, [], []⟩
def d_parts_of : He.DefD := ⟨("parts_of", none), "parts_of", "parts_of", defArgs s_parts_of, defBody s_parts_of, defScope s_parts_of, [], []⟩
def d_whole_plan : He.DefD := ⟨("whole_plan", none), "whole_plan", "whole_plan", defArgs s_whole_plan, defBody s_whole_plan, defScope s_whole_plan, [], []⟩
def d_row_operation : He.DefD := ⟨("row_operation", none), "row_operation", "row_operation", defArgs s_row_operation, defBody s_row_operation, defScope s_row_operation, [], []⟩
def d_operation_of : He.DefD := ⟨("operation_of", none), "operation_of", "operation_of", defArgs s_operation_of, defBody s_operation_of, defScope s_operation_of, [], []⟩
def d_plan_list : He.DefD := ⟨("plan_list", none), "plan_list", "plan_list", defArgs s_plan_list, defBody s_plan_list, defScope s_plan_list, [], []⟩
def d_L_wound : He.DefD := ⟨("_law_wound", none), "_law_wound", "_law_wound", defArgs s_L_wound, defBody s_L_wound, defScope s_L_wound, [], []⟩
def d_L_spin : He.DefD := ⟨("_law_spin", none), "_law_spin", "_law_spin", defArgs s_L_spin, defBody s_L_spin, defScope s_L_spin, [], []⟩
def d_L_begin : He.DefD := ⟨("_law_begin", none), "_law_begin", "_law_begin", defArgs s_L_begin, defBody s_L_begin, defScope s_L_begin, [], []⟩
def d_L_drawn_list : He.DefD := ⟨("_law_drawn_list", none), "_law_drawn_list", "_law_drawn_list", defArgs s_L_drawn_list, defBody s_L_drawn_list, defScope s_L_drawn_list, [], []⟩
def d_L_right : He.DefD := ⟨("_law_right", none), "_law_right", "_law_right", defArgs s_L_right, defBody s_L_right, defScope s_L_right, [], []⟩
def d_law : He.DefD := ⟨("law", none), "law", "law", defArgs s_law, defBody s_law, defScope s_law, [], []⟩
def pds : List PropD := [("Trace", "hand", d_Trace_hand), ("Trace", "kept", d_Trace_kept), ("Trace", "steps", d_Trace_steps), ("Trace", "backs", d_Trace_backs)]
def fn : List He.DefD := [d_is_int, d_is_whole, d_InvalidOperations___init__, d_CannotDo___init__, d_TooLarge___init__, d_TooDeep___init__, d_require_length, d_require_slots, d_require_task, d_reach_of, d_rounds_of, d_steps_with, d_least_of, d_least_steps, d_is_operation, d_require_operations, d_Trace___init__, d_Trace_copied, d_Trace_can_do, d_Trace_do, d_require_list, d_wrong_of, d_traces_of, d_first_wrong, d_steps_of, d_backs_of, d_extra_steps, d_most_kept, d_times_in, d_kept_behind, d_closed_count, d_halves_of, d_own_operations, d_count_of, d_parts_of, d_whole_plan, d_row_operation, d_operation_of, d_plan_list, d_L_wound, d_L_spin, d_L_begin, d_L_drawn_list, d_L_right, d_law]
def fa : List He.Fa := [.glo "is_int", .glo "is_whole", .glo "require_length", .glo "require_slots", .glo "require_task", .glo "reach_of", .glo "rounds_of", .glo "steps_with", .glo "least_of", .glo "least_steps", .glo "is_operation", .glo "require_operations", .glo "require_list", .glo "wrong_of", .glo "traces_of", .glo "first_wrong", .glo "steps_of", .glo "backs_of", .glo "extra_steps", .glo "most_kept", .glo "times_in", .glo "kept_behind", .glo "closed_count", .glo "halves_of", .glo "own_operations", .glo "count_of", .glo "parts_of", .glo "whole_plan", .glo "row_operation", .glo "operation_of", .glo "plan_list", .glo "_law_wound", .glo "_law_spin", .glo "_law_begin", .glo "_law_drawn_list", .glo "_law_right", .glo "law", .free "isinstance", .free "int", .free "bool", .free "range", .free "tuple", .free "str", .free "len", .free "list", .free "enumerate", .free "property", .free "sorted", .free "max", .free "zip", .free "min", .free "divmod", .free "sum", .int "MOST_LENGTH" (1000000000000000000000000000000), .int "MOST_SLOTS" (100), .glo "WORDS", .int "MOST_OPERATIONS" (400), .int "MOST_ROUNDS" (1000), .int "MOST_LISTED" (400), .glo "Trace", .cls "Trace", .noat "Trace" "own_length", .noat "Trace" "own_slots", .noat "Trace" "own_hand", .noat "Trace" "own_kept", .noat "Trace" "own_steps", .noat "Trace" "own_backs", .mkr "Trace", .meth "Trace" "copied", .meth "Trace" "can_do", .meth "Trace" "do"]
abbrev RowR : PySem.W.OpenRow := PySem.W.OpenLaw.row PySem.Challenge.rw_backslots_k44_whole_lists_are_never_bett
def cs : List (PySem.W.Frag → Bool) := [errIB [0, 3, 4, 5, 7, 8, 11, 17], sysB, fun K => initB K 0 "item", fun K => initB K 3 "operation", fun K => initB K 4 "limit", fun K => initB K 5 "rounds", fun K => vdB K (He.ga K "WORDS") [("go", .int 1), ("keep", .non), ("take", .int 0), ("free", .int 0), ("back", .non)]]
def tbs : List He.Tab := [(fun K => He.ga K "WORDS", ["go", "keep", "take", "free", "back"])]
abbrev hk : PySem.W.Hook := hookW 5 cs pds fa fn tbs
def ob (s : PySem.W.SharedT) : (Bool × He.AlD × List He.FnW) × List (Option (List (Option (Str × Int)))) := obW 5 cs pds fa fn tbs (HandSHeadRun.getT s)
theorem ob_eq (s : PySem.W.SharedT) : ob s = hk.obs s.abs := obW_eq (HandSHeadRun.getT_eq s)
def loose : List Str := (["is_int", "is_whole", "SlotError", "InvalidOperations", "CannotDo", "TooLarge", "TooDeep", "InvalidLength", "InvalidSlots", "InvalidStep", "MOST_LENGTH", "MOST_SLOTS", "MOST_ROUNDS", "require_length", "require_slots", "require_task", "reach_of", "rounds_of", "steps_with", "least_of", "least_steps", "MOST_OPERATIONS", "WORDS", "is_operation", "require_operations", "Trace", "require_list", "wrong_of", "traces_of", "first_wrong"] : List Str) ++ (["steps_of", "backs_of", "extra_steps", "most_kept", "times_in", "kept_behind", "MOST_LISTED", "closed_count", "halves_of", "own_operations", "count_of", "parts_of", "whole_plan", "row_operation", "operation_of", "plan_list", "_law_wound", "_law_spin", "_law_begin", "_law_drawn_list", "_law_right"] : List Str)
theorem runF (w : World) : HandSHeadRun.RunEq RowR (PySem.W.view RowR.prog [58]) hk ob 40000 loose (w.withFollow "special-get-raises" false) := by
  intro os
  kernel_rfl
theorem runT (w : World) : HandSHeadRun.RunEq RowR (PySem.W.view RowR.prog [58]) hk ob 40000 loose (w.withFollow "special-get-raises" true) := by
  intro os
  kernel_rfl
theorem run (w : World) : HandSHeadRun.RunEq RowR (PySem.W.view RowR.prog [58]) hk ob 40000 loose w := PySem.W.byRow2 "special-get-raises" (P := fun w => HandSHeadRun.RunEq RowR (PySem.W.view RowR.prog [58]) hk ob 40000 loose w) runF runT w
theorem facts {P : Program} {w : World} {K : PySem.W.Frag} {h : Heap} {mg : Str → Option Value} {f : Addr} (X : K.In h) (G : h.Ns mainGlobals mg) (hfa : mg ("law" : Str) = some (.ref f)) (c000 : SaysW cs pds fa fn tbs w K) :
    ∃ fd : FuncData, (∀ (s : Shared) (v : Value), BindsTo s fd ⟨[v], []⟩ [("_law_script", v)]) ∧ ∀ base : Heap, K.In base → base.Ns mainGlobals mg → GOk P w K mg base (L2.CX P w) 9 f fd ["_law_script"] (sp_law K) := by
  have c00 := c000.p
  have c0 := c00.cs
  have c := c00.d
  obtain ⟨p_Trace_hand, fd_Trace_hand, F_Trace_hand⟩ := c00.prop 0 (q := ("Trace", "hand", d_Trace_hand)) rfl
  obtain ⟨p_Trace_kept, fd_Trace_kept, F_Trace_kept⟩ := c00.prop 1 (q := ("Trace", "kept", d_Trace_kept)) rfl
  obtain ⟨p_Trace_steps, fd_Trace_steps, F_Trace_steps⟩ := c00.prop 2 (q := ("Trace", "steps", d_Trace_steps)) rfl
  obtain ⟨p_Trace_backs, fd_Trace_backs, F_Trace_backs⟩ := c00.prop 3 (q := ("Trace", "backs", d_Trace_backs)) rfl
  obtain ⟨fd_is_int, F_is_int⟩ := c.def_ 0 (d := d_is_int) rfl
  have b_is_int : Binds K fd_is_int ["value"] [] := F_is_int.bindsN fun _ _ _ _ _ _ us hl => match us, hl with | [_], _ => rfl
  obtain ⟨fd_is_whole, F_is_whole⟩ := c.def_ 1 (d := d_is_whole) rfl
  have b_is_whole : Binds K fd_is_whole ["value", "low", "high"] [] := F_is_whole.bindsN fun _ _ _ _ _ _ us hl => match us, hl with | [_, _, _], _ => rfl
  obtain ⟨fd_InvalidOperations___init__, F_InvalidOperations___init__⟩ := c.def_ 2 (d := d_InvalidOperations___init__) rfl
  have b_InvalidOperations___init__ : Binds K fd_InvalidOperations___init__ ["self", "item"] [] := F_InvalidOperations___init__.bindsN fun _ _ _ _ _ _ us hl => match us, hl with | [_, _], _ => rfl
  obtain ⟨fd_CannotDo___init__, F_CannotDo___init__⟩ := c.def_ 3 (d := d_CannotDo___init__) rfl
  have b_CannotDo___init__ : Binds K fd_CannotDo___init__ ["self", "operation"] [] := F_CannotDo___init__.bindsN fun _ _ _ _ _ _ us hl => match us, hl with | [_, _], _ => rfl
  obtain ⟨fd_TooLarge___init__, F_TooLarge___init__⟩ := c.def_ 4 (d := d_TooLarge___init__) rfl
  have b_TooLarge___init__ : Binds K fd_TooLarge___init__ ["self", "limit"] [] := F_TooLarge___init__.bindsN fun _ _ _ _ _ _ us hl => match us, hl with | [_, _], _ => rfl
  obtain ⟨fd_TooDeep___init__, F_TooDeep___init__⟩ := c.def_ 5 (d := d_TooDeep___init__) rfl
  have b_TooDeep___init__ : Binds K fd_TooDeep___init__ ["self", "rounds"] [] := F_TooDeep___init__.bindsN fun _ _ _ _ _ _ us hl => match us, hl with | [_, _], _ => rfl
  obtain ⟨fd_require_length, F_require_length⟩ := c.def_ 6 (d := d_require_length) rfl
  have b_require_length : Binds K fd_require_length ["value"] [] := F_require_length.bindsN fun _ _ _ _ _ _ us hl => match us, hl with | [_], _ => rfl
  obtain ⟨fd_require_slots, F_require_slots⟩ := c.def_ 7 (d := d_require_slots) rfl
  have b_require_slots : Binds K fd_require_slots ["value"] [] := F_require_slots.bindsN fun _ _ _ _ _ _ us hl => match us, hl with | [_], _ => rfl
  obtain ⟨fd_require_task, F_require_task⟩ := c.def_ 8 (d := d_require_task) rfl
  have b_require_task : Binds K fd_require_task ["length", "slots"] [] := F_require_task.bindsN fun _ _ _ _ _ _ us hl => match us, hl with | [_, _], _ => rfl
  obtain ⟨fd_reach_of, F_reach_of⟩ := c.def_ 9 (d := d_reach_of) rfl
  have b_reach_of : Binds K fd_reach_of ["slots", "rounds"] [] := F_reach_of.bindsN fun _ _ _ _ _ _ us hl => match us, hl with | [_, _], _ => rfl
  obtain ⟨fd_rounds_of, F_rounds_of⟩ := c.def_ 10 (d := d_rounds_of) rfl
  have b_rounds_of : Binds K fd_rounds_of ["length", "slots"] [] := F_rounds_of.bindsN fun _ _ _ _ _ _ us hl => match us, hl with | [_, _], _ => rfl
  obtain ⟨fd_steps_with, F_steps_with⟩ := c.def_ 11 (d := d_steps_with) rfl
  have b_steps_with : Binds K fd_steps_with ["length", "slots", "rounds"] [] := F_steps_with.bindsN fun _ _ _ _ _ _ us hl => match us, hl with | [_, _, _], _ => rfl
  obtain ⟨fd_least_of, F_least_of⟩ := c.def_ 12 (d := d_least_of) rfl
  have b_least_of : Binds K fd_least_of ["length", "slots"] [] := F_least_of.bindsN fun _ _ _ _ _ _ us hl => match us, hl with | [_, _], _ => rfl
  obtain ⟨fd_least_steps, F_least_steps⟩ := c.def_ 13 (d := d_least_steps) rfl
  have b_least_steps : Binds K fd_least_steps ["length", "slots"] [] := F_least_steps.bindsN fun _ _ _ _ _ _ us hl => match us, hl with | [_, _], _ => rfl
  obtain ⟨fd_is_operation, F_is_operation⟩ := c.def_ 14 (d := d_is_operation) rfl
  have b_is_operation : Binds K fd_is_operation ["value"] [] := F_is_operation.bindsN fun _ _ _ _ _ _ us hl => match us, hl with | [_], _ => rfl
  obtain ⟨fd_require_operations, F_require_operations⟩ := c.def_ 15 (d := d_require_operations) rfl
  have b_require_operations : Binds K fd_require_operations ["value"] [] := F_require_operations.bindsN fun _ _ _ _ _ _ us hl => match us, hl with | [_], _ => rfl
  obtain ⟨fd_Trace___init__, F_Trace___init__⟩ := c.def_ 16 (d := d_Trace___init__) rfl
  have b_Trace___init__ : Binds K fd_Trace___init__ ["self", "length", "slots"] [] := F_Trace___init__.bindsN fun _ _ _ _ _ _ us hl => match us, hl with | [_, _, _], _ => rfl
  have b_Trace_hand : Binds K fd_Trace_hand ["self"] [] := F_Trace_hand.bindsN fun _ _ _ _ _ _ us hl => match us, hl with | [_], _ => rfl
  have b_Trace_kept : Binds K fd_Trace_kept ["self"] [] := F_Trace_kept.bindsN fun _ _ _ _ _ _ us hl => match us, hl with | [_], _ => rfl
  have b_Trace_steps : Binds K fd_Trace_steps ["self"] [] := F_Trace_steps.bindsN fun _ _ _ _ _ _ us hl => match us, hl with | [_], _ => rfl
  have b_Trace_backs : Binds K fd_Trace_backs ["self"] [] := F_Trace_backs.bindsN fun _ _ _ _ _ _ us hl => match us, hl with | [_], _ => rfl
  obtain ⟨fd_Trace_copied, F_Trace_copied⟩ := c.def_ 17 (d := d_Trace_copied) rfl
  have b_Trace_copied : Binds K fd_Trace_copied ["self"] [] := F_Trace_copied.bindsN fun _ _ _ _ _ _ us hl => match us, hl with | [_], _ => rfl
  obtain ⟨fd_Trace_can_do, F_Trace_can_do⟩ := c.def_ 18 (d := d_Trace_can_do) rfl
  have b_Trace_can_do : Binds K fd_Trace_can_do ["self", "operation"] [] := F_Trace_can_do.bindsN fun _ _ _ _ _ _ us hl => match us, hl with | [_, _], _ => rfl
  obtain ⟨fd_Trace_do, F_Trace_do⟩ := c.def_ 19 (d := d_Trace_do) rfl
  have b_Trace_do : Binds K fd_Trace_do ["self", "operation"] [] := F_Trace_do.bindsN fun _ _ _ _ _ _ us hl => match us, hl with | [_, _], _ => rfl
  obtain ⟨fd_require_list, F_require_list⟩ := c.def_ 20 (d := d_require_list) rfl
  have b_require_list : Binds K fd_require_list ["length", "slots", "operations"] [] := F_require_list.bindsN fun _ _ _ _ _ _ us hl => match us, hl with | [_, _, _], _ => rfl
  obtain ⟨fd_wrong_of, F_wrong_of⟩ := c.def_ 21 (d := d_wrong_of) rfl
  have b_wrong_of : Binds K fd_wrong_of ["length", "slots", "operations"] [] := F_wrong_of.bindsN fun _ _ _ _ _ _ us hl => match us, hl with | [_, _, _], _ => rfl
  obtain ⟨fd_traces_of, F_traces_of⟩ := c.def_ 22 (d := d_traces_of) rfl
  have b_traces_of : Binds K fd_traces_of ["length", "slots", "operations"] [] := F_traces_of.bindsN fun _ _ _ _ _ _ us hl => match us, hl with | [_, _, _], _ => rfl
  obtain ⟨fd_first_wrong, F_first_wrong⟩ := c.def_ 23 (d := d_first_wrong) rfl
  have b_first_wrong : Binds K fd_first_wrong ["length", "slots", "operations"] [] := F_first_wrong.bindsN fun _ _ _ _ _ _ us hl => match us, hl with | [_, _, _], _ => rfl
  obtain ⟨fd_steps_of, F_steps_of⟩ := c.def_ 24 (d := d_steps_of) rfl
  have b_steps_of : Binds K fd_steps_of ["length", "slots", "operations"] [] := F_steps_of.bindsN fun _ _ _ _ _ _ us hl => match us, hl with | [_, _, _], _ => rfl
  obtain ⟨fd_backs_of, F_backs_of⟩ := c.def_ 25 (d := d_backs_of) rfl
  have b_backs_of : Binds K fd_backs_of ["length", "slots", "operations"] [] := F_backs_of.bindsN fun _ _ _ _ _ _ us hl => match us, hl with | [_, _, _], _ => rfl
  obtain ⟨fd_extra_steps, F_extra_steps⟩ := c.def_ 26 (d := d_extra_steps) rfl
  have b_extra_steps : Binds K fd_extra_steps ["length", "slots", "operations"] [] := F_extra_steps.bindsN fun _ _ _ _ _ _ us hl => match us, hl with | [_, _, _], _ => rfl
  obtain ⟨fd_most_kept, F_most_kept⟩ := c.def_ 27 (d := d_most_kept) rfl
  have b_most_kept : Binds K fd_most_kept ["length", "slots", "operations"] [] := F_most_kept.bindsN fun _ _ _ _ _ _ us hl => match us, hl with | [_, _, _], _ => rfl
  obtain ⟨fd_times_in, F_times_in⟩ := c.def_ 28 (d := d_times_in) rfl
  have b_times_in : Binds K fd_times_in ["length", "slots", "operations", "step"] [] := F_times_in.bindsN fun _ _ _ _ _ _ us hl => match us, hl with | [_, _, _, _], _ => rfl
  obtain ⟨fd_kept_behind, F_kept_behind⟩ := c.def_ 29 (d := d_kept_behind) rfl
  have b_kept_behind : Binds K fd_kept_behind ["length", "slots", "operations"] [] := F_kept_behind.bindsN fun _ _ _ _ _ _ us hl => match us, hl with | [_, _, _], _ => rfl
  obtain ⟨fd_closed_count, F_closed_count⟩ := c.def_ 30 (d := d_closed_count) rfl
  have b_closed_count : Binds K fd_closed_count ["some"] [] := F_closed_count.bindsN fun _ _ _ _ _ _ us hl => match us, hl with | [_], _ => rfl
  obtain ⟨fd_halves_of, F_halves_of⟩ := c.def_ 31 (d := d_halves_of) rfl
  have b_halves_of : Binds K fd_halves_of ["some"] [] := F_halves_of.bindsN fun _ _ _ _ _ _ us hl => match us, hl with | [_], _ => rfl
  obtain ⟨fd_own_operations, F_own_operations⟩ := c.def_ 32 (d := d_own_operations) rfl
  have b_own_operations : Binds K fd_own_operations ["behind"] [] := F_own_operations.bindsN fun _ _ _ _ _ _ us hl => match us, hl with | [_], _ => rfl
  obtain ⟨fd_count_of, F_count_of⟩ := c.def_ 33 (d := d_count_of) rfl
  have b_count_of : Binds K fd_count_of ["some"] [] := F_count_of.bindsN fun _ _ _ _ _ _ us hl => match us, hl with | [_], _ => rfl
  obtain ⟨fd_parts_of, F_parts_of⟩ := c.def_ 34 (d := d_parts_of) rfl
  have b_parts_of : Binds K fd_parts_of ["part"] [] := F_parts_of.bindsN fun _ _ _ _ _ _ us hl => match us, hl with | [_], _ => rfl
  obtain ⟨fd_whole_plan, F_whole_plan⟩ := c.def_ 35 (d := d_whole_plan) rfl
  have b_whole_plan : Binds K fd_whole_plan ["length", "slots"] [] := F_whole_plan.bindsN fun _ _ _ _ _ _ us hl => match us, hl with | [_, _], _ => rfl
  obtain ⟨fd_row_operation, F_row_operation⟩ := c.def_ 36 (d := d_row_operation) rfl
  have b_row_operation : Binds K fd_row_operation ["part", "number"] [] := F_row_operation.bindsN fun _ _ _ _ _ _ us hl => match us, hl with | [_, _], _ => rfl
  obtain ⟨fd_operation_of, F_operation_of⟩ := c.def_ 37 (d := d_operation_of) rfl
  have b_operation_of : Binds K fd_operation_of ["plan", "number"] [] := F_operation_of.bindsN fun _ _ _ _ _ _ us hl => match us, hl with | [_, _], _ => rfl
  obtain ⟨fd_plan_list, F_plan_list⟩ := c.def_ 38 (d := d_plan_list) rfl
  have b_plan_list : Binds K fd_plan_list ["length", "slots"] [] := F_plan_list.bindsN fun _ _ _ _ _ _ us hl => match us, hl with | [_, _], _ => rfl
  obtain ⟨fd_L_wound, F_L_wound⟩ := c.def_ 39 (d := d_L_wound) rfl
  have b_L_wound : Binds K fd_L_wound ["_law_script", "_law_k"] [] := F_L_wound.bindsN fun _ _ _ _ _ _ us hl => match us, hl with | [_, _], _ => rfl
  obtain ⟨fd_L_spin, F_L_spin⟩ := c.def_ 40 (d := d_L_spin) rfl
  have b_L_spin : Binds K fd_L_spin ["_law_reel", "_law_many"] [] := F_L_spin.bindsN fun _ _ _ _ _ _ us hl => match us, hl with | [_, _], _ => rfl
  obtain ⟨fd_L_begin, F_L_begin⟩ := c.def_ 41 (d := d_L_begin) rfl
  have b_L_begin : Binds K fd_L_begin ["_law_reel", "_law_n", "_law_s", "_law_hand", "_law_kept", "_law_wanted"] [] := F_L_begin.bindsN fun _ _ _ _ _ _ us hl => match us, hl with | [_, _, _, _, _, _], _ => rfl
  obtain ⟨fd_L_drawn_list, F_L_drawn_list⟩ := c.def_ 42 (d := d_L_drawn_list) rfl
  have b_L_drawn_list : Binds K fd_L_drawn_list ["_law_reel", "_law_n", "_law_s"] [] := F_L_drawn_list.bindsN fun _ _ _ _ _ _ us hl => match us, hl with | [_, _, _], _ => rfl
  obtain ⟨fd_L_right, F_L_right⟩ := c.def_ 43 (d := d_L_right) rfl
  have b_L_right : Binds K fd_L_right ["_law_reel"] [] := F_L_right.bindsN fun _ _ _ _ _ _ us hl => match us, hl with | [_], _ => rfl
  obtain ⟨fd_law, F_law⟩ := c.def_ 44 (d := d_law) rfl
  have b_law : Binds K fd_law ["_law_script"] [] := F_law.bindsN fun _ _ _ _ _ _ us hl => match us, hl with | [_], _ => rfl
  have e := hfa.symm.trans (He.glo_ok X G (c.fact 36 (f := .glo "law") rfl))
  cases e
  obtain ⟨t_MOST_LENGTH, c_MOST_LENGTH⟩ := He.int_ok X G (c.fact 53 (f := .int "MOST_LENGTH" (1000000000000000000000000000000)) rfl)
  obtain ⟨t_MOST_SLOTS, c_MOST_SLOTS⟩ := He.int_ok X G (c.fact 54 (f := .int "MOST_SLOTS" (100)) rfl)
  obtain ⟨t_MOST_OPERATIONS, c_MOST_OPERATIONS⟩ := He.int_ok X G (c.fact 56 (f := .int "MOST_OPERATIONS" (400)) rfl)
  obtain ⟨t_MOST_ROUNDS, c_MOST_ROUNDS⟩ := He.int_ok X G (c.fact 57 (f := .int "MOST_ROUNDS" (1000)) rfl)
  obtain ⟨t_MOST_LISTED, c_MOST_LISTED⟩ := He.int_ok X G (c.fact 58 (f := .int "MOST_LISTED" (400)) rfl)
  have b := FunD.bindsA (ps := ["_law_script"]) F_law fun _ _ _ _ _ _ us hl => match us, hl with | [_], _ => rfl
  exact ⟨fd_law, fun s v => b s [v] rfl, fun base _ _ => gok_fn (ok_law ⟨_,
    fd_is_int,
    F_is_int,
    b_is_int,
    He.glo_ok X G (c.fact 0 (f := .glo "is_int") rfl),
    _,
    fd_is_whole,
    F_is_whole,
    b_is_whole,
    He.glo_ok X G (c.fact 1 (f := .glo "is_whole") rfl),
    _,
    fd_InvalidOperations___init__,
    F_InvalidOperations___init__,
    b_InvalidOperations___init__,
    _,
    fd_CannotDo___init__,
    F_CannotDo___init__,
    b_CannotDo___init__,
    _,
    fd_TooLarge___init__,
    F_TooLarge___init__,
    b_TooLarge___init__,
    _,
    fd_TooDeep___init__,
    F_TooDeep___init__,
    b_TooDeep___init__,
    _,
    fd_require_length,
    F_require_length,
    b_require_length,
    He.glo_ok X G (c.fact 2 (f := .glo "require_length") rfl),
    _,
    fd_require_slots,
    F_require_slots,
    b_require_slots,
    He.glo_ok X G (c.fact 3 (f := .glo "require_slots") rfl),
    _,
    fd_require_task,
    F_require_task,
    b_require_task,
    He.glo_ok X G (c.fact 4 (f := .glo "require_task") rfl),
    _,
    fd_reach_of,
    F_reach_of,
    b_reach_of,
    He.glo_ok X G (c.fact 5 (f := .glo "reach_of") rfl),
    _,
    fd_rounds_of,
    F_rounds_of,
    b_rounds_of,
    He.glo_ok X G (c.fact 6 (f := .glo "rounds_of") rfl),
    _,
    fd_steps_with,
    F_steps_with,
    b_steps_with,
    He.glo_ok X G (c.fact 7 (f := .glo "steps_with") rfl),
    _,
    fd_least_of,
    F_least_of,
    b_least_of,
    He.glo_ok X G (c.fact 8 (f := .glo "least_of") rfl),
    _,
    fd_least_steps,
    F_least_steps,
    b_least_steps,
    He.glo_ok X G (c.fact 9 (f := .glo "least_steps") rfl),
    _,
    fd_is_operation,
    F_is_operation,
    b_is_operation,
    He.glo_ok X G (c.fact 10 (f := .glo "is_operation") rfl),
    _,
    fd_require_operations,
    F_require_operations,
    b_require_operations,
    He.glo_ok X G (c.fact 11 (f := .glo "require_operations") rfl),
    _,
    fd_Trace___init__,
    F_Trace___init__,
    b_Trace___init__,
    _,
    fd_Trace_hand,
    F_Trace_hand,
    b_Trace_hand,
    _,
    fd_Trace_kept,
    F_Trace_kept,
    b_Trace_kept,
    _,
    fd_Trace_steps,
    F_Trace_steps,
    b_Trace_steps,
    _,
    fd_Trace_backs,
    F_Trace_backs,
    b_Trace_backs,
    _,
    fd_Trace_copied,
    F_Trace_copied,
    b_Trace_copied,
    _,
    fd_Trace_can_do,
    F_Trace_can_do,
    b_Trace_can_do,
    _,
    fd_Trace_do,
    F_Trace_do,
    b_Trace_do,
    _,
    fd_require_list,
    F_require_list,
    b_require_list,
    He.glo_ok X G (c.fact 12 (f := .glo "require_list") rfl),
    _,
    fd_wrong_of,
    F_wrong_of,
    b_wrong_of,
    He.glo_ok X G (c.fact 13 (f := .glo "wrong_of") rfl),
    _,
    fd_traces_of,
    F_traces_of,
    b_traces_of,
    He.glo_ok X G (c.fact 14 (f := .glo "traces_of") rfl),
    _,
    fd_first_wrong,
    F_first_wrong,
    b_first_wrong,
    He.glo_ok X G (c.fact 15 (f := .glo "first_wrong") rfl),
    _,
    fd_steps_of,
    F_steps_of,
    b_steps_of,
    He.glo_ok X G (c.fact 16 (f := .glo "steps_of") rfl),
    _,
    fd_backs_of,
    F_backs_of,
    b_backs_of,
    He.glo_ok X G (c.fact 17 (f := .glo "backs_of") rfl),
    _,
    fd_extra_steps,
    F_extra_steps,
    b_extra_steps,
    He.glo_ok X G (c.fact 18 (f := .glo "extra_steps") rfl),
    _,
    fd_most_kept,
    F_most_kept,
    b_most_kept,
    He.glo_ok X G (c.fact 19 (f := .glo "most_kept") rfl),
    _,
    fd_times_in,
    F_times_in,
    b_times_in,
    He.glo_ok X G (c.fact 20 (f := .glo "times_in") rfl),
    _,
    fd_kept_behind,
    F_kept_behind,
    b_kept_behind,
    He.glo_ok X G (c.fact 21 (f := .glo "kept_behind") rfl),
    _,
    fd_closed_count,
    F_closed_count,
    b_closed_count,
    He.glo_ok X G (c.fact 22 (f := .glo "closed_count") rfl),
    _,
    fd_halves_of,
    F_halves_of,
    b_halves_of,
    He.glo_ok X G (c.fact 23 (f := .glo "halves_of") rfl),
    _,
    fd_own_operations,
    F_own_operations,
    b_own_operations,
    He.glo_ok X G (c.fact 24 (f := .glo "own_operations") rfl),
    _,
    fd_count_of,
    F_count_of,
    b_count_of,
    He.glo_ok X G (c.fact 25 (f := .glo "count_of") rfl),
    _,
    fd_parts_of,
    F_parts_of,
    b_parts_of,
    He.glo_ok X G (c.fact 26 (f := .glo "parts_of") rfl),
    _,
    fd_whole_plan,
    F_whole_plan,
    b_whole_plan,
    He.glo_ok X G (c.fact 27 (f := .glo "whole_plan") rfl),
    _,
    fd_row_operation,
    F_row_operation,
    b_row_operation,
    He.glo_ok X G (c.fact 28 (f := .glo "row_operation") rfl),
    _,
    fd_operation_of,
    F_operation_of,
    b_operation_of,
    He.glo_ok X G (c.fact 29 (f := .glo "operation_of") rfl),
    _,
    fd_plan_list,
    F_plan_list,
    b_plan_list,
    He.glo_ok X G (c.fact 30 (f := .glo "plan_list") rfl),
    _,
    fd_L_wound,
    F_L_wound,
    b_L_wound,
    He.glo_ok X G (c.fact 31 (f := .glo "_law_wound") rfl),
    _,
    fd_L_spin,
    F_L_spin,
    b_L_spin,
    He.glo_ok X G (c.fact 32 (f := .glo "_law_spin") rfl),
    _,
    fd_L_begin,
    F_L_begin,
    b_L_begin,
    He.glo_ok X G (c.fact 33 (f := .glo "_law_begin") rfl),
    _,
    fd_L_drawn_list,
    F_L_drawn_list,
    b_L_drawn_list,
    He.glo_ok X G (c.fact 34 (f := .glo "_law_drawn_list") rfl),
    _,
    fd_L_right,
    F_L_right,
    b_L_right,
    He.glo_ok X G (c.fact 35 (f := .glo "_law_right") rfl),
    _,
    fd_law,
    F_law,
    b_law,
    He.glo_ok X G (c.fact 36 (f := .glo "law") rfl),
    He.free_ok X G (c.fact 37 (f := .free "isinstance") rfl),
    He.free_ok X G (c.fact 38 (f := .free "int") rfl),
    He.free_ok X G (c.fact 39 (f := .free "bool") rfl),
    He.free_ok X G (c.fact 40 (f := .free "range") rfl),
    He.free_ok X G (c.fact 41 (f := .free "tuple") rfl),
    He.free_ok X G (c.fact 42 (f := .free "str") rfl),
    He.free_ok X G (c.fact 43 (f := .free "len") rfl),
    He.free_ok X G (c.fact 44 (f := .free "list") rfl),
    He.free_ok X G (c.fact 45 (f := .free "enumerate") rfl),
    He.free_ok X G (c.fact 46 (f := .free "property") rfl),
    He.free_ok X G (c.fact 47 (f := .free "sorted") rfl),
    He.free_ok X G (c.fact 48 (f := .free "max") rfl),
    He.free_ok X G (c.fact 49 (f := .free "zip") rfl),
    He.free_ok X G (c.fact 50 (f := .free "min") rfl),
    He.free_ok X G (c.fact 51 (f := .free "divmod") rfl),
    He.free_ok X G (c.fact 52 (f := .free "sum") rfl),
    t_MOST_LENGTH,
    c_MOST_LENGTH,
    t_MOST_SLOTS,
    c_MOST_SLOTS,
    He.glo_ok X G (c.fact 55 (f := .glo "WORDS") rfl),
    wordD_ok (c000.tab 0 (t := (fun K => He.ga K "WORDS", ["go", "keep", "take", "free", "back"])) rfl) (List.all_eq_true.mp c0 _ (List.mem_of_getElem? (i := 6) rfl)),
    t_MOST_OPERATIONS,
    c_MOST_OPERATIONS,
    t_MOST_ROUNDS,
    c_MOST_ROUNDS,
    t_MOST_LISTED,
    c_MOST_LISTED,
    errI_ok X G (List.all_eq_true.mp c0 _ (List.mem_of_getElem? (i := 0) rfl)),
    List.all_eq_true.mp c0 _ (List.mem_of_getElem? (i := 1) rfl),
    He.cls_ok (c.fact 60 (f := .cls "Trace") rfl),
    He.glo_ok X G (c.fact 59 (f := .glo "Trace") rfl),
    He.noat_ok (c.fact 61 (f := .noat "Trace" "own_length") rfl),
    He.noat_ok (c.fact 62 (f := .noat "Trace" "own_slots") rfl),
    He.noat_ok (c.fact 63 (f := .noat "Trace" "own_hand") rfl),
    He.noat_ok (c.fact 64 (f := .noat "Trace" "own_kept") rfl),
    He.noat_ok (c.fact 65 (f := .noat "Trace" "own_steps") rfl),
    He.noat_ok (c.fact 66 (f := .noat "Trace" "own_backs") rfl),
    He.mkr_ok (c.fact 67 (f := .mkr "Trace") rfl),
    He.meth_ok (c.fact 68 (f := .meth "Trace" "copied") rfl),
    He.meth_ok (c.fact 69 (f := .meth "Trace" "can_do") rfl),
    He.meth_ok (c.fact 70 (f := .meth "Trace" "do") rfl),
    _,
    p_Trace_hand,
    _,
    p_Trace_kept,
    _,
    p_Trace_steps,
    _,
    p_Trace_backs,
    initB_ok (List.all_eq_true.mp c0 _ (List.mem_of_getElem? (i := 2) rfl)),
    initB_ok (List.all_eq_true.mp c0 _ (List.mem_of_getElem? (i := 3) rfl)),
    initB_ok (List.all_eq_true.mp c0 _ (List.mem_of_getElem? (i := 4) rfl)),
    initB_ok (List.all_eq_true.mp c0 _ (List.mem_of_getElem? (i := 5) rfl))⟩)⟩
end Bs
open PySem PySem.W PySem.Calls PyProof.Rows
theorem PySem.Challenge.cw_backslots_k44_whole_lists_are_never_bett_holds : PySem.Challenge.rw_backslots_k44_whole_lists_are_never_bett.Holds := by
  w_on; o_law
  refine HandSHeadRun.head_any (r := OpenLaw.row PySem.Challenge.rw_backslots_k44_whole_lists_are_never_bett) (q := view (OpenLaw.row PySem.Challenge.rw_backslots_k44_whole_lists_are_never_bett).prog [58]) (H := Bs.hk) (ob := Bs.ob) (M := 40000) (loose := Bs.loose) (d := HandSHeadRun.topDef (OpenLaw.row PySem.Challenge.rw_backslots_k44_whole_lists_are_never_bett).prog 58) (kwd := []) Bs.ob_eq
    (by kernel_rfl) (fun s => by kernel_rfl) Bs.run (by kernel_rfl) (by kernel_rfl) (by kernel_rfl) (by rfl) (by first | assumption | decide +kernel) (by decide +kernel) ⟨rfl, rfl, rfl, rfl, rfl, by decide +kernel⟩ ?hw ?hc
  case hw => w_witness2
  case hc =>
    refine Bs.walk_g (l := PySem.Challenge.rw_backslots_k44_whole_lists_are_never_bett) (n := 63) (k := 9) (x := "_law_script") rfl (by decide) (by kernel_rfl) ⟨rfl, by decide, by decide⟩ ?F
    intro w mg fa h Y G hmg0
    obtain ⟨K, KX, c⟩ := Y
    have hmg : mg ("law" : PySem.Str) = some (.ref fa) := by
      have e : (HandSHeadRun.topDef (OpenLaw.row PySem.Challenge.rw_backslots_k44_whole_lists_are_never_bett).prog 58).name = ("law" : PySem.Str) := by kernel_rfl
      rw [← e]
      exact hmg0
    obtain ⟨fd, hb, hF⟩ := Bs.facts (P := (PySem.Challenge.rw_backslots_k44_whole_lists_are_never_bett).prog) (w := w) KX G hmg c
    exact ⟨K, fd, Bs.sp_law K, KX, hb, fun H a ns hl hO hS => Bs.law_in hl hS fun _ => rfl, hF⟩
