import PyProof.Rows.All
import Wide.All
import OpenK.AllK
import Wide.FinOn
import KE.KStateDown
import Lean
import HandS.ForMost
import HandS.Exc
import HandS.TryOnly
import HandS.ExcOwn
import HandS.WordsExc
import HandS.Wide
import HandS.IsInst
import HandS.Evl
import HandS.SortInts
import HandS.Small
import HandS.Style
import PyProof.MaxThree
import HandS.Defaults
import HandS.Head0
import HandS.Head1
import HandS.Head2
import HandS.HeadEnd
import HandS.HeadHook1
import HandS.HeadHook2
import PyProof.ReprRoads
import HandS.Walk
import HandS.Star
import HandS.Conv
import HandS.ExcIs
import HandS.ExcField
import HandS.ExcValue
import KE.KExcIs
import HandS.ExcInit
import HandS.Property
import HandS.Remove
import KE.KeyNested
import HandS.TupAny
import KE.GoesEnum
import HandS.RaiseMore
import PyProof.NeKinds
import HandS.SetKeys
import PySem.Challenge.RW_backslots_k05_least_steps_by_all_lists
set_option Elab.async false
set_option linter.all false
set_option maxRecDepth 100000
set_option maxHeartbeats 4000000
namespace Bs
open PySem PySem.Spec PyProof.Rows L2
open Evl (Ex)

/-! ### a def without defaults -/
abbrev FnP (K : PySem.W.Frag) (x q : Str) (st : Stmt) (f : Addr) (fd : FuncData) : Prop := FunD K x q (defArgs st) (defBody st) (defScope st) [] [] f fd

/-! ### heaps that grow -/
theorem exn {H : Hp} {p : Addr} {o : HO} (h : H p = none) : Ex H (upd H p o) := Ex.new h
theorem dp_ex {K : PySem.W.Frag} {H H' : Hp} (e : Ex H H') : ∀ (d : PyData) (v : V), Dp K H v d → Dp K H' v d
  | .none, _, .non => .non
  | .bool _, _, .bl b => .bl b
  | .int _, _, .int i => .int i
  | .str _, _, .str x => .str x
  | .list ds, _, .lst h a => .lst (Evl.ex_l e h) (go ds _ a)
  | .tuple ds, _, .tup h a => .tup (Evl.ex_t e h) (go ds _ a)
where go : ∀ (ds : List PyData) (vs : List V), DpAll K H vs ds → DpAll K H' vs ds
  | [], _, .nil => .nil
  | d :: ds, _, .cons h r => .cons (dp_ex e d _ h) (go ds _ r)

/-! ### defs called where no repr is under way -/
abbrev Clean (A : Around) : Prop := A.guards = some []
/-- as FnOk, where no repr is under way -/
structure GOk (P : Program) (w : World) (K : PySem.W.Frag) (mg : Str → Option Value) (base : Heap)
    (C : CXT) (k : Nat) (f : Addr) (fd : FuncData) (ps : List Str) (sp : Sp) : Prop where
  arity : ∀ vs H Q E, sp vs H Q E → vs.length = ps.length
  go : ∀ (A : Around) (fr : List Env) (s : Shared) (H : Hp) (args : Args) (us : List Value) (vs : List V) (Q : VK) (E : XK),
    Room k A → Clean A → Env0 P w K mg base A fr s H → BindsTo s fd args (ps.zip us) → Vals vs us →
    sp vs H Q E → codeAny (model P w) A (.call (.ref f) args) (CR C fr P w H s Q E) s
section
variable {P : Program} {w : World} {K : PySem.W.Frag} {mg : Str → Option Value} {base : Heap} {C : CXT} {k j : Nat}
  {f : Addr} {fd : FuncData} {ps N : List Str} {sp sp' : Sp}
theorem GOk.up (F : GOk P w K mg base C j f fd ps sp) (h : j ≤ k) : GOk P w K mg base C k f fd ps sp :=
  ⟨F.arity, fun A fr s H args us vs Q E r => F.go A fr s H args us vs Q E (r.mono h)⟩
theorem GOk.weak (F : GOk P w K mg base C k f fd ps sp) (h : ∀ vs H Q E, sp' vs H Q E → sp vs H Q E) : GOk P w K mg base C k f fd ps sp' :=
  ⟨fun vs H Q E q => F.arity vs H Q E (h _ _ _ _ q), fun A fr s H args us vs Q E r g e b v q => F.go A fr s H args us vs Q E r g e b v (h _ _ _ _ q)⟩
/-- a def by its body, no repr under way -/
theorem gok_of {name qual : Str} {pr : Arguments} {body : List Stmt} {scope : Scope} {dV kV doc pm cdv ct oc : Value} {an od : Option Addr} {osl : Array (Option Value)}
    (lk : K.lookup f = some ⟨oc, od, .func (PySem.W.fnOf name qual pr body scope dV kV doc pm an cdv ct), osl⟩)
    (hcd : PySem.W.codeIn K cdv qual = true) (S : FnScope N ps scope)
    (ar : ∀ vs H Q E, sp vs H Q E → vs.length = ps.length)
    (hb : ∀ (A : Around) (fr : List Env) (s : Shared) (H : Hp) (vs : List V) (Q : VK) (E : XK),
      Room k (A.deeper (envOfC qual scope s.heap.objs.size f cdv)) → Clean A → sp vs H Q E →
      ∃ t, PSs (cxOf C P w K mg base N qual scope f cdv A fr s H E) body t ∧
        t { nx := fun _ H' => Q .non H', rt := Q } (start N vs) H) :
    GOk P w K mg base C (k + 1) f (PySem.W.fnOf name qual pr body scope dV kV doc pm an cdv ct) ps sp := by
  refine ⟨ar, ?_⟩
  intro A fr s H args us vs Q E hr hg e0 bd rv hsp
  have in0 : ∀ b o, base.get? b = some o → s.heap.get? b = some o := fun b o e => (e0.bs b o e).1
  have inK : K.In s.heap := e0.mod.kin.keeps in0
  refine codeAny_call_function hr.depth (inK _ _ lk) rfl S.co S.gen rfl (PySem.W.codeRec_of inK hcd) (bd _ _ _ _ ?_)
  have kinds : ∀ y ∈ ps.zip us, scope.names.lookup y.1 = some .local ∨
      (scope.names.lookup y.1 = some .cell ∧ ((cellsFrom (s.heap.objs.size + 1) scope.names []).lookup y.1).isSome = true) := by
    rintro ⟨n, v⟩ hy
    exact (S.par n (List.of_mem_zip hy).1).imp id fun q => ⟨q, PySem.W.cellsFrom_some _ _ _ (.inl q)⟩
  refine wpAny_newFunctionEnv_cells S.kind kinds ?_
  intro env he s1 x
  subst he
  refine ⟨(e0.mod.nolimit.keeps in0).keeps x.toInCall.keep, codeAny_func ?_⟩
  obtain ⟨t, ht, hq⟩ := hb A fr s H vs Q E (hr.deeper _) hg hsp
  have I0 := inv_start (CX := C) (E := E) S hr.hd e0 (ar _ _ _ _ hsp) rv x
  refine wpAny_mono (ht.run [] s1 (start N vs) H _ I0 hq) ?_ (fun _ _ z => z)
  intro fl s' z
  cases fl with
  | next => obtain ⟨_, H', J, q⟩ := z; exact ⟨.non, H', J.os, J.bare, J.base, J.hok, rfl, q⟩
  | ret u => obtain ⟨v, _, H', J, r, q⟩ := z; exact ⟨v, H', J.os, J.bare, J.base, J.hok, r, q⟩
  | brk => exact z.elim fun _ z => z.elim fun _ z => z.2.elim
  | cont => exact z.elim fun _ z => z.elim fun _ z => z.2.elim
theorem FunD.gok {x qual : Str} {pr : Arguments} {body : List Stmt} {scope : Scope} {dvs : List V} {kws : List (Str × V)}
    (F : FunD K x qual pr body scope dvs kws f fd) (S : FnScope N ps scope) (ar : ∀ vs H Q E, sp vs H Q E → vs.length = ps.length)
    (hb : ∀ (cdv : Value) (A : Around) (fr : List Env) (s : Shared) (H : Hp) (vs : List V) (Q : VK) (E : XK),
      Room k (A.deeper (envOfC qual scope s.heap.objs.size f cdv)) → Clean A → sp vs H Q E →
      ∃ t, PSs (cxOf C P w K mg base N qual scope f cdv A fr s H E) body t ∧
        t { nx := fun _ H' => Q .non H', rt := Q } (start N vs) H) :
    GOk P w K mg base C (k + 1) f fd ps sp := by
  obtain ⟨oc, od, dV, kV, doc, pm, an, cdv, ct, osl, rfl, lk, hcd, _, _⟩ := F.ex
  exact gok_of lk hcd S ar (hb cdv)
end
section
variable {X : Cx} {C : CXT} {k : Nat} {f Cl : Addr} {fd : FuncData} {ps : List Str} {sp : Sp} {dvs : List V} {ds : List Value} {E : XK}
  {x m : Str} {p pos apos : Pos} {e o : Expr} {es : List Expr} {ta : TE} {t : TA}
/-- the callee runs, no repr under way -/
theorem run_g {pins : List (Addr × Obj)} {σ : L2.St} {H : Hp} {s : Shared} {Q : VK} {us : List Value} {vs : List V}
    (F : GOk X.prog X.w X.K X.mg X.base C k f fd ps sp) (hr : Room k X.A) (hc : Clean X.A) (hb : Binds X.K fd ps ds) (hd : Vals dvs ds)
    (hx : Passes C X E) (I : Inv X pins σ H s) (r : Vals vs us) (h : sp (vs ++ dvs) H Q E) :
    wpAny (model X.prog X.w) X.A (call (.ref f) us) (EP X pins σ Q) X.xe s := by
  have rr := r.append hd
  have len : (us ++ ds).length = ps.length := rr.length ▸ F.arity _ _ _ _ h
  have one := F.go X.A X.stack s H ⟨us, []⟩ (us ++ ds) (vs ++ dvs) Q E hr hc I.env0 (hb s us I.kIn len) rr h
  refine wpAny_call (codeAny_mono one ?_)
  rintro (e | fl) s' z
  · exact hx pins σ H s e s' I z
  · cases fl with
    | ret u => exact I.after z
    | _ => exact z.elim
theorem pe_callG (F : GOk X.prog X.w X.K X.mg X.base C k f fd ps sp) (hr : Room k X.A) (hc : Clean X.A) (hg : Gl X x) (hm : X.mg x = some (.ref f))
    (hk : PySem.W.keepIn X.K (.ref f) = true) (hb : Binds X.K fd ps ds) (hd : Vals dvs ds) (hx : Passes C X E) (ha : PA X (e :: es) t)
    (hdb : (x == ("__debug__" : Str)) = false := by decide)
    (he : starEach (e :: es) X.env = (false, eval e X.env) :: starEach es X.env := by rfl)
    (hpl : (backTo pos (starEach es X.env)).any (·.1) = false := by rfl) :
    PE X (.Call (.Name x p) (e :: es) [] pos) (tCall sp dvs E t) :=
  ⟨fun pins s σ H Q I h => wpAny_Call_Name_kw (ld_glob I hg hm (PySem.W.callWith_K (h₀ := X.base) I.ok.mod.kin hk
    (thn (ha.run pos pins s σ H _ I h) fun _ _ ⟨_, _, I1, r, q⟩ => ⟨I1.kIn, run_g F hr hc hb hd hx I1 r q⟩) he hpl) hdb)⟩
theorem pe_callG0 (F : GOk X.prog X.w X.K X.mg X.base C k f fd ps sp) (hr : Room k X.A) (hc : Clean X.A) (hg : Gl X x) (hm : X.mg x = some (.ref f))
    (hk : PySem.W.keepIn X.K (.ref f) = true) (hb : Binds X.K fd ps ds) (hd : Vals dvs ds) (hx : Passes C X E)
    (hdb : (x == ("__debug__" : Str)) = false := by decide) : PE X (.Call (.Name x p) [] [] pos) (tCall sp dvs E tNil) :=
  ⟨fun pins s σ H Q I h => wpAny_Call_Name_kw (ld_glob I hg hm (PySem.W.callWith_K0 I.kIn hk (run_g (us := []) F hr hc hb hd hx I .nil h)) hdb)⟩
end

/-! ### data whose text is no matter -/
mutual
def fine : Nat → PyData → Bool
  | _, .none => true
  | _, .bool _ => true
  | _, .int i => decide (i.natAbs.log2 < 1900)
  | _, .str x => PyData.strOk x
  | n + 1, .list xs => fineAll n xs
  | n + 1, .tuple xs => fineAll n xs
  | 0, .list _ => false
  | 0, .tuple _ => false
  | _, .dict _ => false
def fineAll : Nat → List PyData → Bool
  | _, [] => true
  | n, x :: xs => fine n x && fineAll n xs
end
mutual
def sz : PyData → Nat
  | .none => 5
  | .bool _ => 5
  | .int _ => 2000
  | .str x => 10 * x.length + 2
  | .list xs => szAll xs + 3
  | .tuple xs => szAll xs + 3
  | .dict _ => 0
def szAll : List PyData → Nat
  | [] => 0
  | x :: xs => sz x + 2 + szAll xs
end
mutual
theorem fine_ok : ∀ (d : PyData) (n : Nat), fine n d = true → d.showable = true ∧ d.hasDict = false ∧ d.depth ≤ n ∧ d.shown.length ≤ sz d
  | .none, n, _ => ⟨rfl, rfl, Nat.zero_le _, by show Str.length (PyData.shown .none) ≤ 5; decide⟩
  | .bool b, n, _ => ⟨rfl, rfl, Nat.zero_le _, by cases b <;> (show Str.length (PyData.shown (.bool _)) ≤ 5; decide)⟩
  | .int i, n, h => by
    have h1 : i.natAbs.log2 < 1900 := by simpa only [fine, decide_eq_true_eq] using h
    refine ⟨by simp only [PyData.showable, decide_eq_true_eq]; omega, rfl, Nat.zero_le _, ?_⟩
    have h2 := int_text_length_le (k := 1900) (by decide) h1
    show (Str.ofString (toString i)).length ≤ 2000
    rw [PySem.ofString_length]
    omega
  | .str x, n, h => by
    have h1 : ∀ c ∈ x.cps.toList, c < 16 ^ 8 := by
      have h2 : x.cps.all (· < 0x110000) = true := by rw [fine] at h; exact h
      rw [← Array.all_toList, List.all_eq_true] at h2
      intro c hc
      have := of_decide_eq_true (h2 c hc)
      omega
    exact ⟨rfl, rfl, Nat.zero_le _, StrLaws.reprText_len x h1⟩
  | .list xs, n + 1, h => by
    obtain ⟨h1, h2, h3, h4⟩ := fineAll_ok xs n (by simpa only [fine] using h)
    refine ⟨by simpa only [PyData.showable] using h1, by simpa only [PyData.hasDict] using h2, by simp only [PyData.depth]; omega, ?_⟩
    have := listText_len_le (PyData.shownAll xs)
    simp only [PyData.shown, sz]
    omega
  | .tuple xs, n + 1, h => by
    obtain ⟨h1, h2, h3, h4⟩ := fineAll_ok xs n (by simpa only [fine] using h)
    refine ⟨by simpa only [PyData.showable] using h1, by simpa only [PyData.hasDict] using h2, by simp only [PyData.depth]; omega, ?_⟩
    have := tupleText_len_le (PyData.shownAll xs)
    simp only [PyData.shown, sz]
    omega
  | .list _, 0, h => by simp [fine] at h
  | .tuple _, 0, h => by simp [fine] at h
  | .dict _, n, h => by cases n <;> simp [fine] at h
theorem fineAll_ok : ∀ (xs : List PyData) (n : Nat), fineAll n xs = true → PyData.showableAll xs = true ∧ PyData.hasDictAll xs = false ∧ PyData.depthAll xs ≤ n ∧ ((PyData.shownAll xs).map (·.length)).sum + 2 * (PyData.shownAll xs).length ≤ szAll xs
  | [], n, _ => ⟨rfl, rfl, Nat.zero_le _, by simp [PyData.shownAll, szAll]⟩
  | x :: xs, n, h => by
    obtain ⟨ha, hb⟩ := Bool.and_eq_true_iff.mp (show (fine n x && fineAll n xs) = true by simpa only [fineAll] using h)
    obtain ⟨a1, a2, a3, a4⟩ := fine_ok x n ha
    obtain ⟨b1, b2, b3, b4⟩ := fineAll_ok xs n hb
    refine ⟨by simp only [PyData.showableAll, a1, b1, Bool.and_true], by simp only [PyData.hasDictAll, a2, b2, Bool.or_false], by simp only [PyData.depthAll]; omega, ?_⟩
    simp only [PyData.shownAll, szAll, List.map_cons, List.sum_cons, List.length_cons]
    omega
end
mutual
theorem fine_can : ∀ (d : PyData) (n : Nat), fine n d = true → d.canLay0 = true
  | .none, _, _ => rfl
  | .bool _, _, _ => rfl
  | .int _, _, _ => rfl
  | .str x, _, h => by rw [fine] at h; rw [PyData.canLay0]; exact h
  | .list xs, n + 1, h => by
    have := fineAll_can xs n (by simpa only [fine] using h)
    simpa only [PyData.canLay0] using this
  | .tuple xs, n + 1, h => by
    have := fineAll_can xs n (by simpa only [fine] using h)
    simpa only [PyData.canLay0] using this
  | .list _, 0, h => by simp [fine] at h
  | .tuple _, 0, h => by simp [fine] at h
  | .dict _, n, h => by cases n <;> simp [fine] at h
theorem fineAll_can : ∀ (xs : List PyData) (n : Nat), fineAll n xs = true → PyData.canLayAll0 xs = true
  | [], _, _ => rfl
  | x :: xs, n, h => by
    obtain ⟨ha, hb⟩ := Bool.and_eq_true_iff.mp (show (fine n x && fineAll n xs) = true by simpa only [fineAll] using h)
    simp only [PyData.canLayAll0, fine_can x n ha, fineAll_can xs n hb, Bool.and_self]
end
theorem fine_shaped {d : PyData} (h : fine 20 d = true) : SeqAt.shaped d = true := by
  unfold SeqAt.shaped
  rw [fine_can d 20 h, Bool.true_and, decide_eq_true_eq]
  have := (fine_ok d 20 h).2.2.1
  omega
/-! no bool in it -/
mutual
def nb : PyData → Bool
  | .bool _ => false
  | .dict _ => false
  | .list xs => nbAll xs
  | .tuple xs => nbAll xs
  | _ => true
def nbAll : List PyData → Bool
  | [] => true
  | x :: xs => nb x && nbAll xs
end
mutual
theorem eqv_nb : ∀ (d e : PyData), nb d = true → nb e = true → PyData.eqv d e = true → d = e
  | .none, .none, _, _, _ => rfl
  | .int i, .int j, _, _, h => by rw [PyData.eqv, beq_iff_eq] at h; rw [h]
  | .str x, .str y, _, _, h => by rw [PyData.eqv, beq_iff_eq] at h; rw [h]
  | .list xs, .list ys, h1, h2, h => by rw [eqvAll_nb xs ys (by simpa only [nb] using h1) (by simpa only [nb] using h2) (by simpa only [PyData.eqv] using h)]
  | .tuple xs, .tuple ys, h1, h2, h => by rw [eqvAll_nb xs ys (by simpa only [nb] using h1) (by simpa only [nb] using h2) (by simpa only [PyData.eqv] using h)]
  | .bool _, _, h1, _, _ => by simp [nb] at h1
  | .dict _, _, h1, _, _ => by simp [nb] at h1
  | .none, .bool _, _, _, h => by simp [PyData.eqv] at h
  | .none, .int _, _, _, h => by simp [PyData.eqv] at h
  | .none, .str _, _, _, h => by simp [PyData.eqv] at h
  | .none, .list _, _, _, h => by simp [PyData.eqv] at h
  | .none, .tuple _, _, _, h => by simp [PyData.eqv] at h
  | .none, .dict _, _, _, h => by simp [PyData.eqv] at h
  | .int _, .none, _, _, h => by simp [PyData.eqv] at h
  | .int _, .bool _, _, h2, _ => by simp [nb] at h2
  | .int _, .str _, _, _, h => by simp [PyData.eqv] at h
  | .int _, .list _, _, _, h => by simp [PyData.eqv] at h
  | .int _, .tuple _, _, _, h => by simp [PyData.eqv] at h
  | .int _, .dict _, _, _, h => by simp [PyData.eqv] at h
  | .str _, .none, _, _, h => by simp [PyData.eqv] at h
  | .str _, .bool _, _, _, h => by simp [PyData.eqv] at h
  | .str _, .int _, _, _, h => by simp [PyData.eqv] at h
  | .str _, .list _, _, _, h => by simp [PyData.eqv] at h
  | .str _, .tuple _, _, _, h => by simp [PyData.eqv] at h
  | .str _, .dict _, _, _, h => by simp [PyData.eqv] at h
  | .list _, .none, _, _, h => by simp [PyData.eqv] at h
  | .list _, .bool _, _, _, h => by simp [PyData.eqv] at h
  | .list _, .int _, _, _, h => by simp [PyData.eqv] at h
  | .list _, .str _, _, _, h => by simp [PyData.eqv] at h
  | .list _, .tuple _, _, _, h => by simp [PyData.eqv] at h
  | .list _, .dict _, _, _, h => by simp [PyData.eqv] at h
  | .tuple _, .none, _, _, h => by simp [PyData.eqv] at h
  | .tuple _, .bool _, _, _, h => by simp [PyData.eqv] at h
  | .tuple _, .int _, _, _, h => by simp [PyData.eqv] at h
  | .tuple _, .str _, _, _, h => by simp [PyData.eqv] at h
  | .tuple _, .list _, _, _, h => by simp [PyData.eqv] at h
  | .tuple _, .dict _, _, _, h => by simp [PyData.eqv] at h
theorem eqvAll_nb : ∀ (xs ys : List PyData), nbAll xs = true → nbAll ys = true → PyData.eqvAll xs ys = true → xs = ys
  | [], [], _, _, _ => rfl
  | [], _ :: _, _, _, h => by simp [PyData.eqvAll] at h
  | _ :: _, [], _, _, h => by simp [PyData.eqvAll] at h
  | x :: xs, y :: ys, h1, h2, h => by
    obtain ⟨a1, a2⟩ := Bool.and_eq_true_iff.mp (show (nb x && nbAll xs) = true by simpa only [nbAll] using h1)
    obtain ⟨b1, b2⟩ := Bool.and_eq_true_iff.mp (show (nb y && nbAll ys) = true by simpa only [nbAll] using h2)
    obtain ⟨c1, c2⟩ := Bool.and_eq_true_iff.mp (show (PyData.eqv x y && PyData.eqvAll xs ys) = true by simpa only [PyData.eqvAll] using h)
    rw [eqv_nb x y a1 b1 c1, eqvAll_nb xs ys a2 b2 c2]
end
theorem eqv_ne {d e : PyData} (h1 : nb d = true) (h2 : nb e = true) (h : d ≠ e) : PyData.eqv d e = false := by
  cases q : PyData.eqv d e with
  | false => rfl
  | true => exact absurd (eqv_nb d e h1 h2 q) h
theorem eqv_same {d : PyData} (h : fine 20 d = true) : PyData.eqv d d = true := SeqAt.eqv_refl _ (fine_can d 20 h)
theorem nbAll_ints : ∀ {ns : List Int}, nbAll (ns.map PyData.int) = true
  | [] => rfl
  | _ :: ns => by
    have := nbAll_ints (ns := ns)
    simp only [List.map_cons, nbAll, nb, this, Bool.and_self]
theorem fineAll_ints {n : Nat} : ∀ {ns : List Int}, (∀ i ∈ ns, i.natAbs.log2 < 1900) → fineAll n (ns.map PyData.int) = true
  | [], _ => by simp only [List.map_nil, fineAll]
  | i :: ns, h => by
    have h1 := h i List.mem_cons_self
    have h2 := fineAll_ints (n := n) (ns := ns) fun j hj => h j (List.mem_cons_of_mem _ hj)
    simp only [List.map_cons, fineAll, fine, h2, Bool.and_true, decide_eq_true_eq]
    exact h1
theorem szAll_ints : ∀ {ns : List Int}, szAll (ns.map PyData.int) = 2002 * ns.length
  | [] => by simp [szAll]
  | i :: ns => by
    have := szAll_ints (ns := ns)
    simp only [List.map_cons, szAll, sz, List.length_cons]
    omega

/-! ### rules -/
section
variable {X : Cx}
/-- a great number: a bound that no number here comes to -/
def BIG : Int := 2 ^ 100000
theorem big_200 : (10 : Int) ^ 200 ≤ BIG := by
  unfold BIG
  exact Int.le_trans (by decide : (10 : Int) ^ 200 ≤ 2 ^ 700) (Int.ofNat_le.mpr (Nat.pow_le_pow_right (by decide) (by decide : 700 ≤ 100000)))
theorem big_log {i : Int} (h : -BIG < i) (h2 : i < BIG) : i.natAbs.log2 < 100000 := by
  have e : i.natAbs < 2 ^ 100000 := by
    unfold BIG at h h2
    generalize hn : (2 : Nat) ^ 100000 = n at *
    have e : ((2 : Int) ^ 100000) = (n : Int) := by rw [← hn, Int.natCast_pow] <;> rfl
    rw [e] at h h2
    omega
  exact PySem.Flt.log2_lt_of (by decide) e
def CMulB (i j : Int) : Prop := (-BIG < i ∧ i < BIG) ∧ (-BIG < j ∧ j < BIG)
def CDivB (_ j : Int) : Prop := 0 < j ∧ j ≤ 10 ^ 200
theorem op_mulB : OpR X (binaryOp .Mult) (rI CMulB fun i j => .int (i * j)) := opI fun i j _ _ _ _ _ hc q => by
  refine mul_int q (CMulW.ok ?_)
  have h1 := big_log hc.1.1 hc.1.2
  have h2 := big_log hc.2.1 hc.2.2
  unfold CMulW
  omega
theorem iop_mulB : OpR X (inplaceOp .Mult) (rI CMulB fun i j => .int (i * j)) := opI fun i j _ _ _ _ _ hc q => by
  refine imul_int q (CMulW.ok ?_)
  have h1 := big_log hc.1.1 hc.1.2
  have h2 := big_log hc.2.1 hc.2.2
  unfold CMulW
  omega
theorem op_divB : OpR X (binaryOp .FloorDiv) (rI CDivB fun i j => .int (i / j)) := opI fun i j _ _ _ _ _ hc q => by
  obtain ⟨h1, h2⟩ := hc
  have e : j.natAbs < 2 ^ 700 := by
    have : (10 : Int) ^ 200 < 2 ^ 700 := by decide
    generalize hn : (2 : Nat) ^ 700 = n at *
    have e : ((2 : Int) ^ 700) = (n : Int) := by rw [← hn, Int.natCast_pow] <;> rfl
    rw [e] at this
    omega
  exact floordiv_int (by omega) (by rw [Int.fdiv_eq_ediv_of_nonneg i (by omega)]; exact q) (.inl (PyProof.noPylong_of_log2 (Nat.lt_trans (PySem.Flt.log2_lt_of (by decide) e) (by decide))))
/-- a power of a great int -/
def CPowW (i j : Int) : Prop := 0 ≤ j ∧ j ≤ 100 ∧ -BIG < i ∧ i < BIG
theorem op_powB : OpR X (binaryOp .Pow) (rI CPowW fun i j => .int (i ^ j.toNat)) := opI fun i j _ _ _ _ _ hc q => by
  obtain ⟨h1, h2, h3, h4⟩ := hc
  refine pow_int h1 ?_ q
  have b : Builtin.Int.intBits i ≤ 100000 := by
    unfold Builtin.Int.intBits
    split
    · omega
    · have := big_log h3 h4
      omega
  have b2 : ((Builtin.Int.intBits i : Nat) : Int) ≤ 100000 := by omega
  calc ((Builtin.Int.intBits i : Nat) : Int) * j ≤ 100000 * j := Int.mul_le_mul_of_nonneg_right b2 h1
    _ ≤ 100000 * 100 := Int.mul_le_mul_of_nonneg_left h2 (by decide)
    _ ≤ 2 ^ 27 := by decide
/-- a power of a small int -/
def CPowC (i j : Int) : Prop := 0 ≤ j ∧ j ≤ 1000 ∧ -(10 ^ 18) < i ∧ i < 10 ^ 18
theorem op_powC : OpR X (binaryOp .Pow) (rI CPowC fun i j => .int (i ^ j.toNat)) := opI fun i j _ _ _ _ _ hc q => pow_int_small hc.1 (by have := hc.2.1; omega) (by have h1 := hc.2.2.1; have h2 := hc.2.2.2; omega) q
/-- a number whose text is no matter -/
def MED : Int := 2 ^ 1900
theorem med_200 : (10 : Int) ^ 200 ≤ MED := by
  unfold MED
  exact Int.le_trans (by decide : (10 : Int) ^ 200 ≤ 2 ^ 700) (Int.ofNat_le.mpr (Nat.pow_le_pow_right (by decide) (by decide : 700 ≤ 1900)))
theorem med_log {i : Int} (h : -MED < i) (h2 : i < MED) : i.natAbs.log2 < 1900 := by
  have e : i.natAbs < 2 ^ 1900 := by
    unfold MED at h h2
    generalize hn : (2 : Nat) ^ 1900 = n at *
    have e : ((2 : Int) ^ 1900) = (n : Int) := by rw [← hn, Int.natCast_pow] <;> rfl
    rw [e] at h h2
    omega
  exact PySem.Flt.log2_lt_of (by decide) e
def rReprI : List V → Hp → VK → Prop := fun xs H Q => ∃ i, xs = [.int i] ∧ (-MED < i ∧ i < MED) ∧ Q (.str (toString i)) H
theorem call_repr_I : CallR X (.builtin "repr") rReprI := by
  intro pins s σ H xs us Q I r h
  obtain ⟨i, rfl, hb, q⟩ := h
  cases r with
  | cons r0 r1 =>
  cases r1
  obtain ⟨t, rfl⟩ := r0
  exact P.repr_of_int (Nat.lt_trans (med_log hb.1 hb.2) (by decide)) ⟨.str _, H, I.tok _, ⟨_, rfl⟩, q⟩
theorem call_str_I : CallR X (.type "str") rReprI := fun pins s σ H xs us Q I r h => call_str_int pins s σ H xs us Q I r (by
  obtain ⟨i, e, hb, q⟩ := h
  exact ⟨i, e, Nat.lt_trans (med_log hb.1 hb.2) (by decide), q⟩)
theorem call_intI : CallR X (.type "int") (fun xs H Q => ∃ i, xs = [.int i] ∧ Q (.int i) H) := fun pins s σ H xs us Q I r h => call_int1 pins s σ H xs us Q I r (.inl h)
/-- a tracked list's, a tracked tuple's item -/
def rIxLT : R2 := fun x y H Q => ∃ p xs i v, x = .ref p ∧ y = .int i ∧ H p = some (.lst xs) ∧ atI xs i = some v ∧ Q v H
def rIxTT : R2 := fun x y H Q => ∃ p xs i v, x = .ref p ∧ y = .int i ∧ H p = some (.tup xs) ∧ atI xs i = some v ∧ Q v H
theorem ix_listT : IxR X rIxLT := fun e1 e2 pins s σ H x y u v Q I rx ry h hs => ix_list e1 e2 pins s σ H x y u v Q I rx ry (by
  obtain ⟨p, xs, i, v, h1, h2, h3, h4, q⟩ := h
  exact ⟨p, xs, i, v, h1, h2, SqL.of h3, h4, q⟩) hs
theorem ix_tupT : IxR X rIxTT := fun e1 e2 pins s σ H x y u v Q I rx ry h hs => ix_tup e1 e2 pins s σ H x y u v Q I rx ry (by
  obtain ⟨p, xs, i, v, h1, h2, h3, h4, q⟩ := h
  exact ⟨p, xs, i, v, h1, h2, SqT.of h3, h4, q⟩) hs
/-- repr of data, no repr under way -/
def rReprD (K : PySem.W.Frag) : List V → Hp → VK → Prop := fun xs H Q =>
  ∃ v d, xs = [v] ∧ Dp K H v d ∧ fine 20 d = true ∧ sz d ≤ 16000000 ∧ Q (.str d.shown) H
/-- a < b < c < d -/
def tChain3 (r r' r'' : R2) (ta tb tc td : TE) : TE := fun σ H Q => ta σ H fun x H1 => tb σ H1 fun y H2 => r x y H2 fun z H3 => ∃ k, z = .bl k ∧
  (if k = true then tc σ H3 fun u H4 => r' y u H4 fun z' H5 => ∃ k', z' = .bl k' ∧ (if k' = true then td σ H5 fun t H6 => r'' u t H6 Q else Q (.bl false) H5) else Q (.bl false) H3)
section
variable {o1 o2 o3 : CmpOp} {q1 q2 q3 : R2} {a b c d : Expr} {ta tb tc td : TE} {pos : Pos}
theorem pe_chain3 (h1 : OpR X (compareOp o1) q1) (h2 : OpR X (compareOp o2) q2) (h3 : OpR X (compareOp o3) q3)
    (ha : PE X a ta) (hb : PE X b tb) (hc : PE X c tc) (hd : PE X d td)
    (hm : lastMarks [o1, o2, o3] [b, c, d] = false := by with_unfolding_all rfl) :
    PE X (.Compare a [o1, o2, o3] [b, c, d] pos) (tChain3 q1 q2 q3 ta tb tc td) := by
  refine ⟨fun pins s σ H Q I h => Compare_chain ?_ hm⟩
  refine thn (ha.run pins s σ H _ I h) ?_
  rintro v s1 ⟨x, H1, I1, rx, g1⟩
  refine chain_link (thn (hb.run pins s1 σ H1 _ I1 g1) ?_)
  rintro u s2 ⟨y, H2, I2, ry, g2⟩
  refine thn (h1 pins s2 σ H2 x y v u _ I2 rx ry g2) ?_
  rintro w s3 ⟨z, H3, I3, rz, k, ez, g3⟩
  subst ez
  cases rz
  refine wpAny_truthy_bool ?_
  cases k with
  | false => exact ite_ff ⟨.bl false, H3, I3, rfl, g3⟩
  | true =>
    refine ite_tt (chain_link (thn (hc.run pins s3 σ H3 _ I3 g3) ?_))
    rintro u' s4 ⟨y', H4, I4, ry', g4⟩
    refine thn (h2 pins s4 σ H4 y y' u u' _ I4 ry ry' g4) ?_
    rintro w' s5 ⟨z', H5, I5, rz', k', ez', g5⟩
    subst ez'
    cases rz'
    refine wpAny_truthy_bool ?_
    cases k' with
    | false => exact ite_ff ⟨.bl false, H5, I5, rfl, g5⟩
    | true =>
      refine ite_tt (chain_last (thn (hd.run pins s5 σ H5 _ I5 g5) ?_))
      rintro u2 s6 ⟨y2, H6, I6, ry2, g6⟩
      exact h3 pins s6 σ H6 y' y2 u' u2 Q I6 ry' ry2 g6
theorem pt_chain3 (h1 : OpR X (compareOp o1) q1) (h2 : OpR X (compareOp o2) q2) (h3 : OpR X (compareOp o3) q3)
    (ha : PE X a ta) (hb : PE X b tb) (hc : PE X c tc) (hd : PE X d td)
    (hm : lastMarks [o1, o2, o3] [b, c, d] = false := by with_unfolding_all rfl) :
    PT X (.Compare a [o1, o2, o3] [b, c, d] pos) (tTest (tChain3 q1 q2 q3 ta tb tc td)) := by
  refine ⟨fun pins s σ H Q I h => isTrue_chain ?_ hm⟩
  refine thn (ha.run pins s σ H _ I h) ?_
  rintro v s1 ⟨x, H1, I1, rx, g1⟩
  refine test_link (thn (hb.run pins s1 σ H1 _ I1 g1) ?_)
  rintro u s2 ⟨y, H2, I2, ry, g2⟩
  refine thn (h1 pins s2 σ H2 x y v u _ I2 rx ry g2) ?_
  rintro w s3 ⟨z, H3, I3, rz, k, ez, g3⟩
  subst ez
  cases rz
  refine wpAny_truthy_bool ?_
  cases k with
  | false =>
    obtain ⟨b, eb, g⟩ := g3
    cases eb
    exact ite_ff ⟨H3, I3, g⟩
  | true =>
    refine ite_tt (test_link (thn (hc.run pins s3 σ H3 _ I3 g3) ?_))
    rintro u' s4 ⟨y', H4, I4, ry', g4⟩
    refine thn (h2 pins s4 σ H4 y y' u u' _ I4 ry ry' g4) ?_
    rintro w' s5 ⟨z', H5, I5, rz', k', ez', g5⟩
    subst ez'
    cases rz'
    refine wpAny_truthy_bool ?_
    cases k' with
    | false =>
      obtain ⟨b, eb, g⟩ := g5
      cases eb
      exact ite_ff ⟨H5, I5, g⟩
    | true =>
      refine ite_tt (test_last (thn (hd.run pins s5 σ H5 _ I5 g5) ?_))
      rintro u2 s6 ⟨y2, H6, I6, ry2, g6⟩
      refine thn (h3 pins s6 σ H6 y' y2 u' u2 _ I6 ry' ry2 g6) ?_
      rintro w2 s7 ⟨z2, H7, I7, rz2, k2, ez2, g7⟩
      subst ez2
      cases rz2
      exact wpAny_truthy_bool ⟨H7, I7, g7⟩
end
theorem call_intB : CallR X (.type "int") (fun xs H Q => ∃ k, xs = [.bl k] ∧ Q (.int (if k then 1 else 0)) H) := fun pins s σ H xs us Q I r h => call_int1 pins s σ H xs us Q I r (.inr h)
def rMin3 : List V → Hp → VK → Prop := fun xs H Q => ∃ i j k, xs = [.int i, .int j, .int k] ∧ Q (.int (min (min i j) k)) H
def rMax3 : List V → Hp → VK → Prop := fun xs H Q => ∃ i j k, xs = [.int i, .int j, .int k] ∧ Q (.int (max (max i j) k)) H
theorem vals3 {x y z : V} {us : List Value} (r : Vals [x, y, z] us) : ∃ u v w, us = [u, v, w] ∧ RelV x u ∧ RelV y v ∧ RelV z w := by
  cases r with
  | cons a r => cases r with
    | cons b r => cases r with
      | cons c r => cases r; exact ⟨_, _, _, rfl, a, b, c⟩
theorem call_min3 (hc : X.calm = true) : CallR X (.builtin "min") rMin3 := by
  intro pins s σ H xs us Q I r h
  obtain ⟨i, j, k, rfl, q⟩ := h
  obtain ⟨u, v, w, rfl, ⟨t, rfl⟩, ⟨t', rfl⟩, ⟨t2, rfl⟩⟩ := vals3 r
  refine PySem.min_three_ints (I.ok.hd hc) fun h' tk kk => ⟨.int (min (min i j) k), H, I.kept kk, ?_, q⟩
  split
  · split
    · exact ⟨_, by rw [show min (min i j) k = k by omega]⟩
    · exact ⟨_, by rw [show min (min i j) k = j by omega]⟩
  · split
    · exact ⟨_, by rw [show min (min i j) k = k by omega]⟩
    · exact ⟨_, by rw [show min (min i j) k = i by omega]⟩
theorem call_max3 (hc : X.calm = true) : CallR X (.builtin "max") rMax3 := by
  intro pins s σ H xs us Q I r h
  obtain ⟨i, j, k, rfl, q⟩ := h
  obtain ⟨u, v, w, rfl, ⟨t, rfl⟩, ⟨t', rfl⟩, ⟨t2, rfl⟩⟩ := vals3 r
  refine PySem.max_three_ints (I.ok.hd hc) fun h' tk kk => ⟨.int (max (max i j) k), H, I.kept kk, ?_, q⟩
  split
  · split
    · exact ⟨_, by rw [show max (max i j) k = k by omega]⟩
    · exact ⟨_, by rw [show max (max i j) k = j by omega]⟩
  · split
    · exact ⟨_, by rw [show max (max i j) k = k by omega]⟩
    · exact ⟨_, by rw [show max (max i j) k = i by omega]⟩
def rLenQ (K : PySem.W.Frag) : List V → Hp → VK → Prop := fun xs H Q => ∃ p ys, xs = [.ref p] ∧ (SqL K H p ys ∨ SqT K H p ys) ∧ Q (.int ys.length) H
theorem call_lenQ : CallR X (.builtin "len") (rLenQ X.K) := call_len_seq
/-- == and != of data -/
def rEqF (K : PySem.W.Frag) : R2 := fun x y H Q => ∃ d e, Dp K H x d ∧ Dp K H y e ∧ fine 20 d = true ∧ fine 20 e = true ∧ Q (.bl (PyData.eqv d e)) H
def rNeF (K : PySem.W.Frag) : R2 := fun x y H Q => ∃ d e, Dp K H x d ∧ Dp K H y e ∧ fine 20 d = true ∧ fine 20 e = true ∧ Q (.bl (!PyData.eqv d e)) H
theorem op_eqF {k : Nat} (hr : Room k X.A) : OpR X (compareOp .Eq) (rEqF X.K) := fun pins s σ H x y v u Q I rx ry h => op_eqD hr.units pins s σ H x y v u Q I rx ry (by
  obtain ⟨d, e, h1, h2, h3, h4, q⟩ := h
  exact ⟨d, e, h1, h2, fine_shaped h3, fine_shaped h4, q⟩)
theorem op_neF {k : Nat} (hr : Room k X.A) : OpR X (compareOp .NotEq) (rNeF X.K) := fun pins s σ H x y v u Q I rx ry h => op_neD hr.units pins s σ H x y v u Q I rx ry (by
  obtain ⟨d, e, h1, h2, h3, h4, q⟩ := h
  exact ⟨d, e, h1, h2, fine_shaped h3, fine_shaped h4, q⟩)
theorem call_repr_D {k : Nat} (hr : Room k X.A) (hc : Clean X.A) : CallR X (.builtin "repr") (rReprD X.K) := by
  intro pins s σ H xs us Q I r h
  obtain ⟨v, d, rfl, hd, hf, hs, q⟩ := h
  obtain ⟨h1, h2, h3, hz0⟩ := fine_ok d 20 hf
  have hz : d.shown.length ≤ sizeLine := by rw [sizeLine_eq]; omega
  cases r with
  | cons r0 r1 =>
  cases r1
  rename_i u
  have hu := hr.units
  obtain ⟨as, rd⟩ := Dp.reads I d v u hd r0
  cases hd with
  | non => cases r0; exact P.repr_of_none ⟨.str _, H, I.tok _, ⟨_, rfl⟩, q⟩
  | bl b =>
    cases r0
    refine P.repr_of_bool ⟨.str _, H, I.tok _, ⟨_, rfl⟩, ?_⟩
    cases b <;> exact q
  | int i =>
    obtain ⟨t, rfl⟩ := r0
    exact P.repr_of_int (by simpa only [PyData.showable, decide_eq_true_eq] using h1) ⟨.str _, H, I.tok _, ⟨_, rfl⟩, q⟩
  | str x =>
    obtain ⟨t, rfl⟩ := r0
    exact P.repr_of_str ⟨.str _, H, I.tok _, ⟨_, rfl⟩, q⟩ hz
  | lst _ _ =>
    cases r0
    exact repr_of_reads' rd h1 (fun z => by rw [h2] at z; cases z) hc (by omega) (fun _ _ z => z) (fun h' u tk kk => ⟨.str _, H, I.kept kk, ⟨_, rfl⟩, q⟩) hz
  | tup _ _ =>
    cases r0
    exact repr_of_reads' rd h1 (fun z => by rw [h2] at z; cases z) hc (by omega) (fun _ _ z => z) (fun h' u tk kk => ⟨.str _, H, I.kept kk, ⟨_, rfl⟩, q⟩) hz
end

/-- (a, b, ..) = a tracked tuple of that length -/
def gTupT (n : Nat) (t : TGs) : TG := fun v σ H Q => ∃ a xs, v = .ref a ∧ H a = some (.tup xs) ∧ xs.length = n ∧ t xs σ H Q
theorem pg_tupT {X : Cx} {pos : Pos} {es : List Expr} {k : Nat} {t : TGs} {n : Nat} (hc : X.calm = true) (h : PGs X es t)
    (hn : (assignEach es X.env).length = n := by rfl) (hst : (assignEach es X.env).findIdx? (·.1) = none := by rfl) : PG X (.Tuple es k pos) (gTupT n t) :=
  ⟨fun pins s σ H v u Q I r hw => (pg_tup hc h hn hst).run pins s σ H v u Q I r (by
    obtain ⟨a, xs, e1, hq, hl, z⟩ := hw
    exact ⟨a, xs, e1, SqT.of hq, hl, z⟩)⟩

/-! ### promises by the number of arguments -/
def sp0 (F : Hp → VK → XK → Prop) : Sp := fun vs H Q E => vs = [] ∧ F H Q E
def sp1 (F : V → Hp → VK → XK → Prop) : Sp := fun vs H Q E => ∃ a, vs = [a] ∧ F a H Q E
def sp2 (F : V → V → Hp → VK → XK → Prop) : Sp := fun vs H Q E => ∃ a b, vs = [a, b] ∧ F a b H Q E
def sp3 (F : V → V → V → Hp → VK → XK → Prop) : Sp := fun vs H Q E => ∃ a b c, vs = [a, b, c] ∧ F a b c H Q E
def sp4 (F : V → V → V → V → Hp → VK → XK → Prop) : Sp := fun vs H Q E => ∃ a b c d, vs = [a, b, c, d] ∧ F a b c d H Q E
def sp5 (F : V → V → V → V → V → Hp → VK → XK → Prop) : Sp := fun vs H Q E => ∃ a b c d e, vs = [a, b, c, d, e] ∧ F a b c d e H Q E
theorem ar0 {F vs H Q E} (h : sp0 F vs H Q E) : vs.length = 0 := by obtain ⟨rfl, _⟩ := h; rfl
theorem ar1 {F vs H Q E} (h : sp1 F vs H Q E) : vs.length = 1 := by obtain ⟨_, rfl, _⟩ := h; rfl
theorem ar2 {F vs H Q E} (h : sp2 F vs H Q E) : vs.length = 2 := by obtain ⟨_, _, rfl, _⟩ := h; rfl
theorem ar3 {F vs H Q E} (h : sp3 F vs H Q E) : vs.length = 3 := by obtain ⟨_, _, _, rfl, _⟩ := h; rfl
theorem ar4 {F vs H Q E} (h : sp4 F vs H Q E) : vs.length = 4 := by obtain ⟨_, _, _, _, rfl, _⟩ := h; rfl
theorem ar5 {F vs H Q E} (h : sp5 F vs H Q E) : vs.length = 5 := by obtain ⟨_, _, _, _, _, rfl, _⟩ := h; rfl

/-! ### what is kept but for one object -/
def Mo (r : Addr) (H H' : Hp) : Prop := ∀ b o, b ≠ r → H b = some o → H' b = some o
theorem Mo.refl (r : Addr) (H : Hp) : Mo r H H := fun _ _ _ h => h
theorem Mo.trans {r : Addr} {H H1 H2 : Hp} (a : Mo r H H1) (b : Mo r H1 H2) : Mo r H H2 := fun c o n h => b c o n (a c o n h)
theorem Mo.ex {r : Addr} {H H1 : Hp} (e : Ex H H1) : Mo r H H1 := fun c o _ h => e c o h
theorem Mo.upd {r : Addr} {H : Hp} {o : HO} : Mo r H (upd H r o) := fun c u n h => by rw [upd_ne n]; exact h
theorem Ex.to_mo {r : Addr} {H H1 H2 : Hp} (e : Ex H H1) (m : Mo r H1 H2) : Mo r H H2 := fun c o n h => m c o n (e c o h)
/-- a new object that is written stays new to what stood before -/
theorem Mo.ex_new {r : Addr} {H H1 H2 : Hp} (e : Ex H H1) (n : H r = none) (m : Mo r H1 H2) : Ex H H2 := fun c o h => m c o (ne_of_none h n) (e c o h)
theorem sq_l {K : PySem.W.Frag} {H : Hp} {a : Addr} {xs : List V} (h : H a = some (.lst xs)) : SqL K H a xs := .inl (.inl h)
theorem sq_t {K : PySem.W.Frag} {H : Hp} {a : Addr} {xs : List V} (h : H a = some (.tup xs)) : SqT K H a xs := .inl (.inl h)

/-! ### new data: what is at addresses of S alone -/
mutual
inductive Rp (H : Hp) (S : Addr → Prop) : V → PyData → Prop where
  | non : Rp H S .non .none
  | bl (b : Bool) : Rp H S (.bl b) (.bool b)
  | int (i : Int) : Rp H S (.int i) (.int i)
  | str (x : Str) : Rp H S (.str x) (.str x)
  | lst {a : Addr} {xs : List V} {ds : List PyData} : S a → H a = some (.lst xs) → RpA H S xs ds → Rp H S (.ref a) (.list ds)
  | tup {a : Addr} {xs : List V} {ds : List PyData} : S a → H a = some (.tup xs) → RpA H S xs ds → Rp H S (.ref a) (.tuple ds)
inductive RpA (H : Hp) (S : Addr → Prop) : List V → List PyData → Prop where
  | nil : RpA H S [] []
  | cons {v : V} {vs : List V} {d : PyData} {ds : List PyData} : Rp H S v d → RpA H S vs ds → RpA H S (v :: vs) (d :: ds)
end
section
variable {H H' : Hp} {S S' : Addr → Prop} {K : PySem.W.Frag}
mutual
theorem Rp.keep (k : ∀ b o, S b → H b = some o → H' b = some o) (s : ∀ b, S b → S' b) : ∀ {d : PyData} {v : V}, Rp H S v d → Rp H' S' v d
  | .none, _, .non => .non
  | .bool _, _, .bl b => .bl b
  | .int _, _, .int i => .int i
  | .str _, _, .str x => .str x
  | .list _, _, .lst m h r => .lst (s _ m) (k _ _ m h) (RpA.keep k s r)
  | .tuple _, _, .tup m h r => .tup (s _ m) (k _ _ m h) (RpA.keep k s r)
theorem RpA.keep (k : ∀ b o, S b → H b = some o → H' b = some o) (s : ∀ b, S b → S' b) : ∀ {ds : List PyData} {vs : List V}, RpA H S vs ds → RpA H' S' vs ds
  | [], _, .nil => .nil
  | _ :: _, _, .cons h r => .cons (Rp.keep k s h) (RpA.keep k s r)
end
mutual
theorem Rp.dp : ∀ {d : PyData} {v : V}, Rp H S v d → Dp K H v d
  | .none, _, .non => .non
  | .bool _, _, .bl b => .bl b
  | .int _, _, .int i => .int i
  | .str _, _, .str x => .str x
  | .list _, _, .lst _ h r => .lst (sq_l h) (RpA.dp r)
  | .tuple _, _, .tup _ h r => .tup (sq_t h) (RpA.dp r)
theorem RpA.dp : ∀ {ds : List PyData} {vs : List V}, RpA H S vs ds → DpAll K H vs ds
  | [], _, .nil => .nil
  | _ :: _, _, .cons h r => .cons (Rp.dp h) (RpA.dp r)
end
mutual
theorem Rp.here : ∀ {d : PyData} {v : V}, Rp H S v d → Rp H (fun b => S b ∧ ∃ o, H b = some o) v d
  | .none, _, .non => .non
  | .bool _, _, .bl b => .bl b
  | .int _, _, .int i => .int i
  | .str _, _, .str x => .str x
  | .list _, _, .lst m h r => .lst ⟨m, _, h⟩ h (RpA.here r)
  | .tuple _, _, .tup m h r => .tup ⟨m, _, h⟩ h (RpA.here r)
theorem RpA.here : ∀ {ds : List PyData} {vs : List V}, RpA H S vs ds → RpA H (fun b => S b ∧ ∃ o, H b = some o) vs ds
  | [], _, .nil => .nil
  | _ :: _, _, .cons h r => .cons (Rp.here h) (RpA.here r)
end
theorem Rp.off {p : Addr} (hp : H p = none) {v : V} {d : PyData} (h : Rp H S v d) : Rp H (fun b => S b ∧ b ≠ p) v d :=
  h.here.keep (fun _ _ _ q => q) fun b ⟨q, o, e⟩ => ⟨q, ne_of_none e hp⟩
theorem RpA.off {p : Addr} (hp : H p = none) {v : List V} {d : List PyData} (h : RpA H S v d) : RpA H (fun b => S b ∧ b ≠ p) v d :=
  h.here.keep (fun _ _ _ q => q) fun b ⟨q, o, e⟩ => ⟨q, ne_of_none e hp⟩
theorem Rp.ex (e : Ex H H') {v : V} {d : PyData} (h : Rp H S v d) : Rp H' S v d := h.keep (fun b o _ q => e b o q) fun _ q => q
theorem RpA.ex (e : Ex H H') {v : List V} {d : List PyData} (h : RpA H S v d) : RpA H' S v d := h.keep (fun b o _ q => e b o q) fun _ q => q
theorem Rp.sub {v : V} {d : PyData} (h : Rp H S v d) (s : ∀ b, S b → S' b) : Rp H S' v d := h.keep (fun _ _ _ q => q) s
theorem RpA.sub {v : List V} {d : List PyData} (h : RpA H S v d) (s : ∀ b, S b → S' b) : RpA H S' v d := h.keep (fun _ _ _ q => q) s
theorem RpA.app : ∀ {xs ys : List V} {ds es : List PyData}, RpA H S xs ds → RpA H S ys es → RpA H S (xs ++ ys) (ds ++ es)
  | _, _, _, _, .nil, r => r
  | _, _, _, _, .cons h t, r => .cons h (RpA.app t r)
theorem RpA.len : ∀ {vs : List V} {ds : List PyData}, RpA H S vs ds → vs.length = ds.length
  | _, _, .nil => rfl
  | _, _, .cons _ r => congrArg Nat.succ (RpA.len r)
theorem RpA.at : ∀ {vs : List V} {ds : List PyData} {i : Nat} {d : PyData}, RpA H S vs ds → ds[i]? = some d → ∃ v, vs[i]? = some v ∧ Rp H S v d
  | _, _, _, _, .nil, e => by simp at e
  | _, _, 0, _, .cons h _, e => by simp at e; subst e; exact ⟨_, rfl, h⟩
  | _, _, i + 1, _, .cons _ r, e => by simpa using RpA.at (i := i) r (by simpa using e)
theorem RpA.at' : ∀ {vs : List V} {ds : List PyData} {i : Nat} {v : V}, RpA H S vs ds → vs[i]? = some v → ∃ d, ds[i]? = some d ∧ Rp H S v d
  | _, _, _, _, .nil, e => by simp at e
  | _, _, 0, _, .cons h _, e => by simp at e; subst e; exact ⟨_, rfl, h⟩
  | _, _, i + 1, _, .cons _ r, e => by simpa using RpA.at' (i := i) r (by simpa using e)
theorem RpA.ints : ∀ {ns : List Int}, RpA H S (ns.map V.int) (ns.map PyData.int)
  | [] => .nil
  | n :: _ => .cons (.int n) RpA.ints
theorem RpA.ints_inv : ∀ {ns : List Int} {vs : List V}, RpA H S vs (ns.map PyData.int) → vs = ns.map V.int
  | [], _, .nil => rfl
  | _ :: _, _, .cons (.int _) r => congrArg _ (RpA.ints_inv r)
/-- a new datum: all of it new to H -/
abbrev New (H : Hp) : Addr → Prop := fun b => H b = none
theorem new_ex (e : Ex H H') : ∀ b, New H' b → New H b := fun _ n => Evl.fresh_back e n
end

/-! ### comprehensions -/
theorem dpa_ex {K : PySem.W.Frag} {H H' : Hp} (e : Ex H H') : ∀ {vs : List V} {ds : List PyData}, DpAll K H vs ds → DpAll K H' vs ds
  | _, _, .nil => .nil
  | _, _, .cons h r => .cons (dp_ex e _ _ h) (dpa_ex e r)
theorem dpa_len {K : PySem.W.Frag} {H : Hp} : ∀ {vs : List V} {ds : List PyData}, DpAll K H vs ds → vs.length = ds.length
  | _, _, .nil => rfl
  | _, _, .cons _ r => congrArg Nat.succ (dpa_len r)
theorem dpa_at {K : PySem.W.Frag} {H : Hp} : ∀ {vs : List V} {ds : List PyData} {i : Nat} {d : PyData}, DpAll K H vs ds → ds[i]? = some d → ∃ v, vs[i]? = some v ∧ Dp K H v d
  | _, _, _, _, .nil, e => by simp at e
  | _, _, 0, _, .cons h _, e => by simp at e; subst e; exact ⟨_, rfl, h⟩
  | _, _, i + 1, _, .cons _ r, e => by simpa using dpa_at (i := i) r (by simpa using e)
theorem dpa_ints {K : PySem.W.Frag} {H : Hp} : ∀ {ns : List Int}, DpAll K H (ns.map V.int) (ns.map PyData.int)
  | [] => .nil
  | n :: _ => .cons (.int n) dpa_ints
section
variable {K : PySem.W.Frag} {σ : L2.St} {H : Hp} {ta : TA} {te tl : TE} {tt : TT} {j : Nat} {vs : List Nat} {Q : VK} {n : Nat} {a : Addr} {xs : List V}
/-- one turn of a comprehension without a test: what is at D grows by what represents d i -/
def LcAt (H : Hp) (D : Addr) (d : Nat → PyData) (i : Nat) (H' : Hp) : Prop :=
  H D = none ∧ Ex H H' ∧ ∃ ys, H' D = some (.lst ys) ∧ RpA H' (fun b => New H b ∧ b ≠ D) ys ((List.range i).map d)
theorem LcAt.start {d : Nat → PyData} {D : Addr} (h : H D = none) : LcAt H D d 0 (upd H D (.lst [])) := ⟨h, exn h, [], upd_same, .nil⟩
theorem lc_step {d : Nat → PyData} {D : Addr} {i : Nat} {H' : Hp} {σ2 : L2.St} (p : LcAt H D d i H') (hi : i < 1000000)
    (he : ∀ H1, Ex H H1 → ∀ R : VK, (∀ v H2, Ex H1 H2 → Rp H2 (New H1) v (d i) → R v H2) → te σ2 H1 R) :
    tYes σ2 H' fun b H3 => if b = true then te σ2 H3 fun y H4 => ∃ acc, H4 D = some (.lst acc) ∧ acc.length < sizeLine ∧ LcAt H D d (i + 1) (upd H4 D (.lst (acc ++ [y]))) else LcAt H D d (i + 1) H3 := by
  obtain ⟨p1, p2, ys, p3, p4⟩ := p
  unfold tYes
  show (if true = true then _ else _)
  rw [if_pos rfl]
  refine he H' p2 _ fun v H2 e2 hv => ?_
  have len : ys.length = i := by rw [p4.len, List.length_map, List.length_range]
  have keep : ∀ (b : Addr) (o : HO), New H b ∧ b ≠ D → H2 b = some o → (upd H2 D (.lst (ys ++ [v]))) b = some o := fun b o m q => by rw [upd_ne m.2]; exact q
  refine ⟨ys, e2 D _ p3, ?_, p1, Mo.ex_new (p2.trans e2) p1 Mo.upd, ys ++ [v], upd_same, ?_⟩
  · rw [len, sizeLine_eq]; omega
  · rw [List.range_succ, List.map_append]
    refine RpA.app ((p4.ex e2).keep keep fun _ q => q) (.cons ?_ .nil)
    exact (hv.sub fun b q => ⟨Evl.fresh_back p2 q, ne_of_none' q p3⟩).keep keep fun _ q => q
where ne_of_none' {H : Hp} {a b : Addr} {o : HO} (q : H b = none) (h : H a = some o) : b ≠ a := fun e => by rw [e, h] at q; cases q
/-- [.. for x in range(n)] -/
theorem lc_rng (d : Nat → PyData) (ha : ∀ R, R [.int (n : Int)] H → ta σ H R) (hn : n ≤ 1000000) (hw : ∀ x, wipe ((wipe σ vs).set j (some x)) vs = wipe σ vs)
    (he : ∀ (i : Nat) H1, i < n → Ex H H1 → ∀ R : VK, (∀ v H2, Ex H1 H2 → Rp H2 (New H1) v (d i) → R v H2) → te ((wipe σ vs).set j (some (.int (i : Int)))) H1 R)
    (k : ∀ v H', Ex H H' → Rp H' (New H) v (.list ((List.range n).map d)) → Q v H') : tLc (iRng1 ta) (gName j) tYes te vs σ H Q := by
  refine ha _ ⟨(n : Int), rfl, by omega, by omega, fun D hD => ?_⟩
  refine lc_range (lo := 0) (n := n) (LcAt H D d) (.start hD) (fun i H' hi p => ?_) (fun H' p => ?_)
  · have e0 : (0 : Int) + (i : Int) = (i : Int) := Int.zero_add _
    show wipe ((wipe σ vs).set j (some (.int ((0 : Int) + (i : Int))))) vs = wipe σ vs ∧ _
    refine ⟨hw _, ?_⟩
    rw [e0]
    exact lc_step p (by omega) (he i · hi)
  · obtain ⟨p1, p2, ys, p3, p4⟩ := p
    exact k _ _ p2 (.lst p1 p3 (p4.sub fun b q => q.1))
theorem lc_rng2 {lo : Int} (d : Nat → PyData) (ha : ∀ R, R [.int lo, .int (lo + (n : Int))] H → ta σ H R) (hn : n ≤ 1000000) (hlo : -1000000 ≤ lo ∧ lo ≤ 1000000) (hw : ∀ x, wipe ((wipe σ vs).set j (some x)) vs = wipe σ vs)
    (he : ∀ (i : Nat) H1, i < n → Ex H H1 → ∀ R : VK, (∀ v H2, Ex H1 H2 → Rp H2 (New H1) v (d i) → R v H2) → te ((wipe σ vs).set j (some (.int (lo + (i : Int))))) H1 R)
    (k : ∀ v H', Ex H H' → Rp H' (New H) v (.list ((List.range n).map d)) → Q v H') : tLc (iRng2 ta) (gName j) tYes te vs σ H Q := by
  refine ha _ ⟨lo, lo + (n : Int), rfl, ⟨by omega, by omega, by omega, by omega⟩, fun D hD => ?_⟩
  have en : (lo + (n : Int) - lo).toNat = n := by omega
  rw [en]
  refine lc_range (lo := lo) (n := n) (LcAt H D d) (.start hD) (fun i H' hi p => ⟨hw _, lc_step p (by omega) (he i · hi)⟩) (fun H' p => ?_)
  obtain ⟨p1, p2, ys, p3, p4⟩ := p
  exact k _ _ p2 (.lst p1 p3 (p4.sub fun b q => q.1))
/-- [.. for x in xs], xs a list that stands -/
theorem lc_lst (d : Nat → PyData) (ha : ∀ R, R (.ref a) H → tl σ H R) (hx : SqL K H a xs) (hn : xs.length ≤ 1000000) (hw : ∀ x, wipe ((wipe σ vs).set j (some x)) vs = wipe σ vs)
    (he : ∀ (i : Nat) x H1, xs[i]? = some x → Ex H H1 → ∀ R : VK, (∀ v H2, Ex H1 H2 → Rp H2 (New H1) v (d i) → R v H2) → te ((wipe σ vs).set j (some x)) H1 R)
    (k : ∀ v H', Ex H H' → Rp H' (New H) v (.list ((List.range xs.length).map d)) → Q v H') : tLc (iList K tl) (gName j) tYes te vs σ H Q := by
  refine ha _ ⟨a, rfl, ⟨xs, hx⟩, fun D hD => ?_⟩
  refine lc_list (xs := xs) (LcAt H D d) (.start hD) (fun i H' _ p => Evl.ex_l p.2.1 hx) (fun i x H' hi p => ⟨hw _, lc_step p ?_ (he i x · hi)⟩) (fun H' p => ?_)
  · have := (List.getElem?_eq_some_iff.mp hi).1; omega
  · obtain ⟨p1, p2, ys, p3, p4⟩ := p
    exact k _ _ p2 (.lst p1 p3 (p4.sub fun b q => q.1))
end

section
variable {K : PySem.W.Frag} {σ : L2.St} {H : Hp} {ta : TA} {te tl : TE} {tt : TT} {j : Nat} {vs : List Nat} {Q : VK} {n : Nat} {a : Addr} {xs : List V}
/-- with a test -/
def LcAtF (H : Hp) (D : Addr) (f : Nat → Bool) (d : Nat → PyData) (i : Nat) (H' : Hp) : Prop :=
  H D = none ∧ Ex H H' ∧ ∃ ys, H' D = some (.lst ys) ∧ RpA H' (fun b => New H b ∧ b ≠ D) ys (((List.range i).filter f).map d)
theorem LcAtF.start {f : Nat → Bool} {d : Nat → PyData} {D : Addr} (h : H D = none) : LcAtF H D f d 0 (upd H D (.lst [])) := ⟨h, exn h, [], upd_same, .nil⟩
theorem lc_stepF {f : Nat → Bool} {d : Nat → PyData} {D : Addr} {i : Nat} {H' : Hp} {σ2 : L2.St} (p : LcAtF H D f d i H') (hi : i < 1000000)
    (ht : ∀ H1, Ex H H1 → ∀ R : Bool → Hp → Prop, (∀ H2, Ex H1 H2 → R (f i) H2) → tt σ2 H1 R)
    (he : f i = true → ∀ H1, Ex H H1 → ∀ R : VK, (∀ v H2, Ex H1 H2 → Rp H2 (New H1) v (d i) → R v H2) → te σ2 H1 R) :
    tt σ2 H' fun b H3 => if b = true then te σ2 H3 fun y H4 => ∃ acc, H4 D = some (.lst acc) ∧ acc.length < sizeLine ∧ LcAtF H D f d (i + 1) (upd H4 D (.lst (acc ++ [y]))) else LcAtF H D f d (i + 1) H3 := by
  obtain ⟨p1, p2, ys, p3, p4⟩ := p
  refine ht H' p2 _ fun H3 e3 => ?_
  cases hf : f i with
  | false =>
    refine iteF ⟨p1, p2.trans e3, ys, e3 D _ p3, ?_⟩
    rw [List.range_succ, List.filter_append, List.filter_cons_of_neg (by simp [hf]), List.filter_nil, List.append_nil]
    exact p4.ex e3
  | true =>
    show (if true = true then _ else _)
    rw [if_pos rfl]
    refine he hf H3 (p2.trans e3) _ fun v H2 e2 hv => ?_
    have len : ys.length ≤ i := by
      rw [p4.len, List.length_map]
      have := List.length_filter_le f (List.range i)
      rw [List.length_range] at this
      exact this
    have p5 := e3 D _ p3
    have keep : ∀ (b : Addr) (o : HO), New H b ∧ b ≠ D → H2 b = some o → (upd H2 D (.lst (ys ++ [v]))) b = some o := fun b o m q => by rw [upd_ne m.2]; exact q
    refine ⟨ys, e2 D _ p5, ?_, p1, Mo.ex_new ((p2.trans e3).trans e2) p1 Mo.upd, ys ++ [v], upd_same, ?_⟩
    · rw [sizeLine_eq]; omega
    · rw [List.range_succ, List.filter_append, List.filter_cons_of_pos hf, List.filter_nil, List.map_append]
      refine RpA.app (((p4.ex e3).ex e2).keep keep fun _ q => q) (.cons ?_ .nil)
      exact (hv.sub fun b q => ⟨Evl.fresh_back (p2.trans e3) q, lc_step.ne_of_none' q p5⟩).keep keep fun _ q => q
theorem lc_rng2F {lo : Int} (f : Nat → Bool) (d : Nat → PyData) (ha : ∀ R, R [.int lo, .int (lo + (n : Int))] H → ta σ H R) (hn : n ≤ 1000000) (hlo : -1000000 ≤ lo ∧ lo ≤ 1000000) (hw : ∀ x, wipe ((wipe σ vs).set j (some x)) vs = wipe σ vs)
    (ht : ∀ (i : Nat) H1, i < n → Ex H H1 → ∀ R : Bool → Hp → Prop, (∀ H2, Ex H1 H2 → R (f i) H2) → tt ((wipe σ vs).set j (some (.int (lo + (i : Int))))) H1 R)
    (he : ∀ (i : Nat) H1, i < n → f i = true → Ex H H1 → ∀ R : VK, (∀ v H2, Ex H1 H2 → Rp H2 (New H1) v (d i) → R v H2) → te ((wipe σ vs).set j (some (.int (lo + (i : Int))))) H1 R)
    (k : ∀ v H', Ex H H' → Rp H' (New H) v (.list (((List.range n).filter f).map d)) → Q v H') : tLc (iRng2 ta) (gName j) tt te vs σ H Q := by
  refine ha _ ⟨lo, lo + (n : Int), rfl, ⟨by omega, by omega, by omega, by omega⟩, fun D hD => ?_⟩
  have en : (lo + (n : Int) - lo).toNat = n := by omega
  rw [en]
  refine lc_range (lo := lo) (n := n) (LcAtF H D f d) (.start hD) (fun i H' hi p => ⟨hw _, lc_stepF p (by omega) (fun H1 => ht i H1 hi) (fun hf H1 => he i H1 hi hf)⟩) (fun H' p => ?_)
  obtain ⟨p1, p2, ys, p3, p4⟩ := p
  exact k _ _ p2 (.lst p1 p3 (p4.sub fun b q => q.1))
theorem lc_lstF (f : Nat → Bool) (d : Nat → PyData) (ha : ∀ R, R (.ref a) H → tl σ H R) (hx : SqL K H a xs) (hn : xs.length ≤ 1000000) (hw : ∀ x, wipe ((wipe σ vs).set j (some x)) vs = wipe σ vs)
    (ht : ∀ (i : Nat) x H1, xs[i]? = some x → Ex H H1 → ∀ R : Bool → Hp → Prop, (∀ H2, Ex H1 H2 → R (f i) H2) → tt ((wipe σ vs).set j (some x)) H1 R)
    (he : ∀ (i : Nat) x H1, xs[i]? = some x → f i = true → Ex H H1 → ∀ R : VK, (∀ v H2, Ex H1 H2 → Rp H2 (New H1) v (d i) → R v H2) → te ((wipe σ vs).set j (some x)) H1 R)
    (k : ∀ v H', Ex H H' → Rp H' (New H) v (.list (((List.range xs.length).filter f).map d)) → Q v H') : tLc (iList K tl) (gName j) tt te vs σ H Q := by
  refine ha _ ⟨a, rfl, ⟨xs, hx⟩, fun D hD => ?_⟩
  refine lc_list (xs := xs) (LcAtF H D f d) (.start hD) (fun i H' _ p => Evl.ex_l p.2.1 hx) (fun i x H' hi p => ⟨hw _, lc_stepF p ?_ (fun H1 => ht i x H1 hi) (fun hf H1 => he i x H1 hi hf)⟩) (fun H' p => ?_)
  · have := (List.getElem?_eq_some_iff.mp hi).1; omega
  · obtain ⟨p1, p2, ys, p3, p4⟩ := p
    exact k _ _ p2 (.lst p1 p3 (p4.sub fun b q => q.1))
end

theorem cut_to (xs : List V) (m : Nat) : cutV xs none (some (m : Int)) = xs.take m := by
  unfold cutV
  have e : HT.sIx xs.length xs.length (some (m : Int)) = min m xs.length := HT.sIx_nat xs.length xs.length m
  rw [e, HT.sIx_none]
  show List.take (min m xs.length - 0) xs = _
  rw [Nat.sub_zero, ← List.take_take, List.take_length]
theorem cut_1 (xs : List V) : cutV xs (some 1) none = xs.drop 1 := by
  unfold cutV
  have e : HT.sIx xs.length 0 (some 1) = min 1 xs.length := HT.sIx_nat xs.length 0 1
  rw [e, HT.sIx_none]
  cases xs with
  | nil => rfl
  | cons x r =>
    have e2 : min 1 (x :: r).length = 1 := by rw [List.length_cons]; omega
    rw [e2]
    show List.take ((x :: r).length - 1) r = r
    rw [List.length_cons, Nat.add_sub_cancel, List.take_length]
/-! ### comprehensions over a range, with what stands between the turns -/
section
variable {K : PySem.W.Frag} {σ : L2.St} {H : Hp} {ta : TA} {te tl : TE} {tt : TT} {j : Nat} {vs : List Nat} {Q : VK} {n : Nat} {a : Addr} {xs : List V}
/-- ints, each with a word P; I i is kept by what does not touch old objects -/
theorem lc_rngI (I : Nat → Hp → Prop) (P : Nat → Int → Prop) (ha : ∀ R, R [.int (n : Int)] H → ta σ H R) (hn : n ≤ 1000000) (hw : ∀ x, wipe ((wipe σ vs).set j (some x)) vs = wipe σ vs)
    (h0 : I 0 H) (hI : ∀ i p H1 H2, I i H1 → H p = none → Mo p H1 H2 → I i H2)
    (he : ∀ (i : Nat) p H1, i < n → I i H1 → H p = none → (∃ o, H1 p = some o) → ∀ R : VK, (∀ x H2, I (i + 1) H2 → P i x → H2 p = H1 p → R (.int x) H2) → te ((wipe σ vs).set j (some (.int (i : Int)))) H1 R)
    (k : ∀ (ns : List Int) p H', ns.length = n → (∀ i x, ns[i]? = some x → P i x) → I n H' → H p = none → H' p = some (.lst (ns.map V.int)) → Q (.ref p) H') : tLc (iRng1 ta) (gName j) tYes te vs σ H Q := by
  refine ha _ ⟨(n : Int), rfl, by omega, by omega, fun D hD => ?_⟩
  refine lc_range (lo := 0) (n := n) (fun i H' => I i H' ∧ ∃ ns : List Int, ns.length = i ∧ (∀ i x, ns[i]? = some x → P i x) ∧ H' D = some (.lst (ns.map V.int)))
    ⟨hI 0 D H _ h0 hD Mo.upd, [], rfl, by simp, upd_same⟩ (fun i H' hi p => ?_) (fun H' p => ?_)
  · obtain ⟨i0, ns, len, hp, hd⟩ := p
    have e0 : (0 : Int) + (i : Int) = (i : Int) := Int.zero_add _
    show wipe ((wipe σ vs).set j (some (.int ((0 : Int) + (i : Int))))) vs = wipe σ vs ∧ _
    refine ⟨hw _, ?_⟩
    rw [e0]
    unfold tYes
    show (if true = true then _ else _)
    rw [if_pos rfl]
    refine he i D H' hi i0 hD ⟨_, hd⟩ _ fun x H2 i2 px ed => ?_
    refine ⟨ns.map V.int, by rw [ed, hd], ?_, hI _ D H2 _ i2 hD Mo.upd, ns ++ [x], by simp [len], ?_, ?_⟩
    · rw [List.length_map, len, sizeLine_eq]; omega
    · intro m y hm
      rw [List.getElem?_append] at hm
      split at hm
      · exact hp m y hm
      · rename_i hl
        have e : m = i := by
          rcases Nat.lt_or_ge (m - ns.length) 1 with h | h
          · omega
          · rw [List.getElem?_eq_none (by simpa using h)] at hm; cases hm
        subst e
        rw [len, Nat.sub_self] at hm
        simp at hm
        subst hm
        exact px
    · rw [upd_same, List.map_append]; rfl
  · obtain ⟨i0, ns, len, hp, hd⟩ := p
    exact k ns D H' len hp i0 hD hd
end
/-! ### two displays of the same -/
theorem neF_same {K : PySem.W.Frag} {H : Hp} {p q : Addr} {xs : List V} {ds : List PyData} {A B : Prop} (h1 : H p = some (.lst xs)) (h2 : H q = some (.lst xs)) (hd : DpAll K H xs ds) (hf : fine 20 (.list ds) = true) (b : B) :
    ∃ d, Dp K H (.ref p) d ∧ ∃ e, Dp K H (.ref q) e ∧ fine 20 d = true ∧ fine 20 e = true ∧ if d.eqv e = false then A else B :=
  ⟨_, .lst (sq_l h1) hd, _, .lst (sq_l h2) hd, hf, hf, by rw [eqv_same hf, if_neg (by decide)]; exact b⟩
theorem eqF_same {K : PySem.W.Frag} {H : Hp} {p q : Addr} {xs : List V} {ds : List PyData} {Q : VK} (h1 : H p = some (.lst xs)) (h2 : H q = some (.lst xs)) (hd : DpAll K H xs ds) (hf : fine 20 (.list ds) = true) (b : Q (.bl true) H) :
    ∃ d, Dp K H (.ref p) d ∧ ∃ e, Dp K H (.ref q) e ∧ fine 20 d = true ∧ fine 20 e = true ∧ Q (.bl (d.eqv e)) H :=
  ⟨_, .lst (sq_l h1) hd, _, .lst (sq_l h2) hd, hf, hf, by rw [eqv_same hf]; exact b⟩

theorem tyV_list {K : PySem.W.Frag} {p : Addr} {H : Hp} : tyV K "list" (.ref p) H = ∃ xs, SqL K H p xs := by
  unfold tyV
  simp
theorem Rp.ints {H : Hp} {S : Addr → Prop} {v : V} {ns : List Int} (h : Rp H S v (.list (ns.map PyData.int))) : ∃ a, v = .ref a ∧ S a ∧ H a = some (.lst (ns.map V.int)) := by
  cases h with
  | lst m e r => exact ⟨_, rfl, m, by rw [e, r.ints_inv]⟩

/-! ### loops -/
section
variable {K : PySem.W.Frag} {σ : L2.St} {H : Hp} {ta : TA} {tl : TE} {tb : TS} {g : TG} {j : Nat} {D : Ends} {a : Addr} {xs : List V}
theorem for_rng2 {lo hi : Int} (n : Nat) (ha : ∀ R, R [.int lo, .int hi] H → ta σ H R) (hn : (hi - lo).toNat = n) (hb : -(2 ^ 60) ≤ lo ∧ lo ≤ 2 ^ 60 ∧ -(2 ^ 60) ≤ hi ∧ hi ≤ 2 ^ 60)
    (Pv : Nat → L2.St → Hp → Prop) (h0 : Pv 0 σ H) (hd : ∀ σ H, Pv n σ H → D.nx σ H)
    (hs : ∀ (i : Nat) σ H, i < n → Pv i σ H → tb { D with nx := Pv (i + 1), ct := Pv (i + 1), bk := D.nx } (σ.set j (some (.int (lo + (i : Int))))) H) : tFor (iRng2 ta) (gName j) tb D σ H := by
  refine ha _ ⟨lo, hi, rfl, ⟨by omega, by omega, by omega, by omega⟩, ?_⟩
  rw [hn]
  exact for_range Pv h0 hs hd
theorem for_rng1 {hi : Int} (n : Nat) (ha : ∀ R, R [.int hi] H → ta σ H R) (hn : hi.toNat = n) (hb : -(2 ^ 60) ≤ hi ∧ hi ≤ 2 ^ 60)
    (Pv : Nat → L2.St → Hp → Prop) (h0 : Pv 0 σ H) (hd : ∀ σ H, Pv n σ H → D.nx σ H)
    (hs : ∀ (i : Nat) σ H, i < n → Pv i σ H → tb { D with nx := Pv (i + 1), ct := Pv (i + 1), bk := D.nx } (σ.set j (some (.int (i : Int)))) H) : tFor (iRng1 ta) (gName j) tb D σ H := by
  refine ha _ ⟨hi, rfl, by omega, by omega, ?_⟩
  rw [hn]
  refine for_range (lo := 0) Pv h0 (fun i σ H hi p => ?_) hd
  have e0 : (0 : Int) + (i : Int) = (i : Int) := Int.zero_add _
  show tb _ (σ.set j (some (.int ((0 : Int) + (i : Int))))) H
  rw [e0]
  exact hs i σ H hi p
theorem for_lst (ha : ∀ R, R (.ref a) H → tl σ H R) (hx : SqL K H a xs) (Pv : Nat → L2.St → Hp → Prop) (h0 : Pv 0 σ H) (hl : ∀ i σ' H', i ≤ xs.length → Pv i σ' H' → SqL K H' a xs) (hd : ∀ σ H, Pv xs.length σ H → D.nx σ H)
    (hs : ∀ (i : Nat) x σ H, xs[i]? = some x → Pv i σ H → g x σ H fun σ2 H2 => tb { D with nx := Pv (i + 1), ct := Pv (i + 1), bk := D.nx } σ2 H2) : tFor (iList K tl) g tb D σ H :=
  ha _ ⟨a, rfl, ⟨xs, hx⟩, for_list Pv h0 hl hs hd⟩
theorem for_tupl (ha : ∀ R, R (.ref a) H → tl σ H R) (hx : SqT K H a xs) (Pv : Nat → L2.St → Hp → Prop) (h0 : Pv 0 σ H) (hl : ∀ i σ' H', i ≤ xs.length → Pv i σ' H' → SqT K H' a xs) (hd : ∀ σ H, Pv xs.length σ H → D.nx σ H)
    (hs : ∀ (i : Nat) x σ H, xs[i]? = some x → Pv i σ H → g x σ H fun σ2 H2 => tb { D with nx := Pv (i + 1), ct := Pv (i + 1), bk := D.nx } σ2 H2) : tFor (iTup K tl) g tb D σ H :=
  ha _ ⟨a, rfl, ⟨xs, hx⟩, for_tup Pv h0 hl hs hd⟩
end

/-! loops whose walked thing is reckoned first: simp only [tFor_tup], walk, then forT_in -/
section
variable {K : PySem.W.Frag} {σ : L2.St} {H : Hp} {ta : TA} {tl : TE} {tb : TS} {g : TG} {j : Nat} {D : Ends} {a : Addr} {xs : List V}
def ForI (J : Addr → It) (S : Hp → Addr → Prop) (g : TG) (tb : TS) (D : Ends) (σ : L2.St) (x : V) (H1 : Hp) : Prop := ∃ a, x = .ref a ∧ S H1 a ∧ ∃ W : Nat → Nat → L2.St → Hp → Prop, (∃ m, W 0 m σ H1) ∧ ∀ i m σ H, W i m σ H →
  ((J a).stop i H ∧ D.nx σ H) ∨ ((J a).go i H ∧ ∃ N : L2.St → Hp → Prop, (∀ σ' H', N σ' H' → ∃ m', m' < m ∧ W (i + 1) m' σ' H') ∧ ∀ x H', (J a).yld i H x H' → g x σ H' fun σ2 H2 => tb { D with nx := N, ct := N, bk := D.nx } σ2 H2)
theorem tFor_tup : tFor (iTup K tl) g tb D σ H = tl σ H (ForI (Itt K) (fun H a => ∃ xs, SqT K H a xs) g tb D σ) := rfl
theorem tFor_lst : tFor (iList K tl) g tb D σ H = tl σ H (ForI (Itl K) (fun H a => ∃ xs, SqL K H a xs) g tb D σ) := rfl
theorem forT_in (hx : SqT K H a xs) (Pv : Nat → L2.St → Hp → Prop) (h0 : Pv 0 σ H) (hl : ∀ i σ' H', i ≤ xs.length → Pv i σ' H' → SqT K H' a xs) (hd : ∀ σ H, Pv xs.length σ H → D.nx σ H)
    (hs : ∀ (i : Nat) x σ H, xs[i]? = some x → Pv i σ H → g x σ H fun σ2 H2 => tb { D with nx := Pv (i + 1), ct := Pv (i + 1), bk := D.nx } σ2 H2) : ForI (Itt K) (fun H a => ∃ xs, SqT K H a xs) g tb D σ (.ref a) H :=
  ⟨a, rfl, ⟨xs, hx⟩, for_tup Pv h0 hl hs hd⟩
theorem forL_in (hx : SqL K H a xs) (Pv : Nat → L2.St → Hp → Prop) (h0 : Pv 0 σ H) (hl : ∀ i σ' H', i ≤ xs.length → Pv i σ' H' → SqL K H' a xs) (hd : ∀ σ H, Pv xs.length σ H → D.nx σ H)
    (hs : ∀ (i : Nat) x σ H, xs[i]? = some x → Pv i σ H → g x σ H fun σ2 H2 => tb { D with nx := Pv (i + 1), ct := Pv (i + 1), bk := D.nx } σ2 H2) : ForI (Itl K) (fun H a => ∃ xs, SqL K H a xs) g tb D σ (.ref a) H :=
  ⟨a, rfl, ⟨xs, hx⟩, for_list Pv h0 hl hs hd⟩
end

/-! comprehensions whose walked thing is reckoned first -/
section
variable {K : PySem.W.Frag} {σ : L2.St} {H : Hp} {te tl : TE} {tt : TT} {g : TG} {j : Nat} {vs : List Nat} {Q : VK} {a : Addr} {xs : List V}
def LcI (J : Addr → It) (S : Hp → Addr → Prop) (g : TG) (tt : TT) (te : TE) (vs : List Nat) (σ : L2.St) (Q : VK) (x : V) (H1 : Hp) : Prop := ∃ a, x = .ref a ∧ S H1 a ∧ ∀ D, H1 D = none → ∃ W : Nat → Nat → Hp → Prop, (∃ m, W 0 m (upd H1 D (.lst []))) ∧ ∀ i m H, W i m H →
  ((J a).stop i H ∧ Q (.ref D) H) ∨ ((J a).go i H ∧ ∃ Nx : Hp → Prop, (∀ H', Nx H' → ∃ m', m' < m ∧ W (i + 1) m' H') ∧ ∀ x H', (J a).yld i H x H' → g x (wipe σ vs) H' fun σ2 H2 => wipe σ2 vs = wipe σ vs ∧ tt σ2 H2 fun b H3 =>
    if b = true then te σ2 H3 fun y H4 => ∃ acc, H4 D = some (.lst acc) ∧ acc.length < sizeLine ∧ Nx (upd H4 D (.lst (acc ++ [y]))) else Nx H3)
theorem tLc_tup : tLc (iTup K tl) g tt te vs σ H Q = tl σ H (LcI (Itt K) (fun H a => ∃ xs, SqT K H a xs) g tt te vs σ Q) := rfl
theorem tLc_lst : tLc (iList K tl) g tt te vs σ H Q = tl σ H (LcI (Itl K) (fun H a => ∃ xs, SqL K H a xs) g tt te vs σ Q) := rfl
theorem lcT_in (f : Nat → Bool) (d : Nat → PyData) (hx : SqT K H a xs) (hn : xs.length ≤ 1000000) (hw : ∀ x, wipe ((wipe σ vs).set j (some x)) vs = wipe σ vs)
    (ht : ∀ (i : Nat) x H1, xs[i]? = some x → Ex H H1 → ∀ R : Bool → Hp → Prop, (∀ H2, Ex H1 H2 → R (f i) H2) → tt ((wipe σ vs).set j (some x)) H1 R)
    (he : ∀ (i : Nat) x H1, xs[i]? = some x → f i = true → Ex H H1 → ∀ R : VK, (∀ v H2, Ex H1 H2 → Rp H2 (New H1) v (d i) → R v H2) → te ((wipe σ vs).set j (some x)) H1 R)
    (k : ∀ v H', Ex H H' → Rp H' (New H) v (.list (((List.range xs.length).filter f).map d)) → Q v H') : LcI (Itt K) (fun H a => ∃ xs, SqT K H a xs) (gName j) tt te vs σ Q (.ref a) H := by
  refine ⟨a, rfl, ⟨xs, hx⟩, fun D hD => ?_⟩
  refine lc_tup (xs := xs) (LcAtF H D f d) (.start hD) (fun i H' _ p => Evl.ex_t p.2.1 hx) (fun i x H' hi p => ⟨hw _, lc_stepF p ?_ (fun H1 => ht i x H1 hi) (fun hf H1 => he i x H1 hi hf)⟩) (fun H' p => ?_)
  · have := (List.getElem?_eq_some_iff.mp hi).1; omega
  · obtain ⟨p1, p2, ys, p3, p4⟩ := p
    exact k _ _ p2 (.lst p1 p3 (p4.sub fun b q => q.1))
theorem lcL_in (f : Nat → Bool) (d : Nat → PyData) (hx : SqL K H a xs) (hn : xs.length ≤ 1000000) (hw : ∀ x, wipe ((wipe σ vs).set j (some x)) vs = wipe σ vs)
    (ht : ∀ (i : Nat) x H1, xs[i]? = some x → Ex H H1 → ∀ R : Bool → Hp → Prop, (∀ H2, Ex H1 H2 → R (f i) H2) → tt ((wipe σ vs).set j (some x)) H1 R)
    (he : ∀ (i : Nat) x H1, xs[i]? = some x → f i = true → Ex H H1 → ∀ R : VK, (∀ v H2, Ex H1 H2 → Rp H2 (New H1) v (d i) → R v H2) → te ((wipe σ vs).set j (some x)) H1 R)
    (k : ∀ v H', Ex H H' → Rp H' (New H) v (.list (((List.range xs.length).filter f).map d)) → Q v H') : LcI (Itl K) (fun H a => ∃ xs, SqL K H a xs) (gName j) tt te vs σ Q (.ref a) H := by
  refine ⟨a, rfl, ⟨xs, hx⟩, fun D hD => ?_⟩
  refine lc_list (xs := xs) (LcAtF H D f d) (.start hD) (fun i H' _ p => Evl.ex_l p.2.1 hx) (fun i x H' hi p => ⟨hw _, lc_stepF p ?_ (fun H1 => ht i x H1 hi) (fun hf H1 => he i x H1 hi hf)⟩) (fun H' p => ?_)
  · have := (List.getElem?_eq_some_iff.mp hi).1; omega
  · obtain ⟨p1, p2, ys, p3, p4⟩ := p
    exact k _ _ p2 (.lst p1 p3 (p4.sub fun b q => q.1))
end

/-! the cells of a script: the first ones, and a zero cell -/
section
variable {K : PySem.W.Frag} {σ : L2.St} {H : Hp} {tb : TS} {g : TG} {D : Ends} {S : Addr} {ns : List Int}
theorem for_cells {m : Int} (hσ : σ[0]? = some (some (.ref S))) (hS : SqL K H S (ns.map V.int)) (hl : ns.length ≤ 63) (Pv : L2.St → Hp → Prop) (h0 : ∀ H0, Ex H H0 → Pv σ H0)
    (hd : ∀ H0, Ex H H0 → ∀ σ' H', Ex H0 H' → Pv σ' H' → D.nx σ' H')
    (hs : ∀ H0, Ex H H0 → ∀ (x : Int) σ' H', Ex H0 H' → Pv σ' H' → g (.int x) σ' H' fun σ2 H2 => tb { D with nx := fun σ2 H2 => Ex H0 H2 ∧ Pv σ2 H2, ct := fun σ2 H2 => Ex H0 H2 ∧ Pv σ2 H2, bk := D.nx } σ2 H2) :
    tFor (iList K (tOp rCat (tSl (rSlL K) (tVar 0) tNoPart (tPart (tC (.int m)))) (tLst (tCons (tC (.int 0)) tNil)))) g tb D σ H := by
  have main : ∀ (p p2 p3 : Addr) (cs : List V), H p = none → upd H p (.lst cs) p2 = none → upd (upd H p (.lst cs)) p2 (.lst [.int 0]) p3 = none → cs = cutV (ns.map V.int) none (some m) →
      ForI (Itl K) (fun H a => ∃ xs, SqL K H a xs) g tb D σ (.ref p3) (upd (upd (upd H p (.lst cs)) p2 (.lst [.int 0])) p3 (.lst (cs ++ [.int 0]))) := by
    rintro p p2 p3 cs hp hp2 hp3 hc
    obtain ⟨ms, hm⟩ : ∃ ms : List Int, cs ++ [V.int 0] = ms.map V.int := by
      subst hc
      unfold cutV
      refine ⟨(ns.drop (HT.sIx (ns.map V.int).length 0 none)).take (HT.sIx (ns.map V.int).length (ns.map V.int).length (some m) - HT.sIx (ns.map V.int).length 0 none) ++ [0], ?_⟩
      rw [List.map_append, List.map_take, List.map_drop]
      rfl
    rw [hm]
    have e := ((exn (o := .lst cs) hp).trans (exn (o := .lst [V.int 0]) hp2)).trans (exn (o := .lst (ms.map V.int)) hp3)
    have hL : ∀ H', Ex (upd (upd (upd H p (.lst cs)) p2 (.lst [.int 0])) p3 (.lst (ms.map V.int))) H' → SqL K H' p3 (ms.map V.int) := fun H' e => Evl.ex_l e (sq_l upd_same)
    generalize upd (upd (upd H p (.lst cs)) p2 (.lst [.int 0])) p3 (.lst (ms.map V.int)) = H0 at *
    refine forL_in (hL H0 (.refl _)) (fun _ σ' H' => Ex H0 H' ∧ Pv σ' H') ⟨.refl _, h0 H0 e⟩ (fun i σ' H' _ h => hL H' h.1) (fun σ' H' h => hd H0 e σ' H' h.1 h.2) fun i x σ' H' hx h => ?_
    rw [List.getElem?_map] at hx
    obtain ⟨y, _, rfl⟩ := Option.map_eq_some_iff.mp hx
    exact hs H0 e y σ' H' h.1 h.2
  simp only [tFor_lst]
  refine ⟨_, hσ, m, rfl, S, _, rfl, hS, ?_⟩
  intro p hp
  simp only [tLst, tCons, tC, tNil, rCat]
  refine ⟨by rw [sizeLine_eq]; decide, ?_⟩
  intro p2 hp2
  exact ⟨p, p2, _, _, rfl, rfl, exn hp2 _ _ upd_same, upd_same, by
    have := cutV_length (ns.map V.int) none (some m)
    rw [List.length_map] at this
    rw [sizeLine_eq]
    show _ + 1 ≤ _
    omega, fun p3 hp3 => main p p2 p3 _ hp hp2 hp3 rfl⟩
end

/-! comprehensions over any walked thing, a turn at a time -/
section
variable {K : PySem.W.Frag} {σ : L2.St} {H : Hp} {ta : TA} {te : TE} {tt : TT} {g : TG} {vs : List Nat} {Q : VK} {a : Addr} {xs : List V} {J : It} {n : Nat} {G : Hp → Prop} {Y : Nat → Hp → V → Hp → Prop}
theorem LcAtF.no {f : Nat → Bool} {d : Nat → PyData} {D : Addr} {i : Nat} {H' H2 : Hp} (p : LcAtF H D f d i H') (hf : f i = false) (e : Ex H' H2) : LcAtF H D f d (i + 1) H2 := by
  obtain ⟨p1, p2, ys, p3, p4⟩ := p
  refine ⟨p1, p2.trans e, ys, e D _ p3, ?_⟩
  rw [List.range_succ, List.filter_append, List.filter_cons_of_neg (by simp [hf]), List.filter_nil, List.append_nil]
  exact p4.ex e
theorem LcAtF.yes {f : Nat → Bool} {d : Nat → PyData} {D : Addr} {i : Nat} {H' H2 : Hp} {v : V} (p : LcAtF H D f d i H') (hi : i < 1000000) (hf : f i = true) (e : Ex H' H2) (hv : Rp H2 (New H') v (d i)) :
    ∃ acc, H2 D = some (.lst acc) ∧ acc.length < sizeLine ∧ LcAtF H D f d (i + 1) (upd H2 D (.lst (acc ++ [v]))) := by
  obtain ⟨p1, p2, ys, p3, p4⟩ := p
  have len : ys.length ≤ i := by
    rw [p4.len, List.length_map]
    have := List.length_filter_le f (List.range i)
    rw [List.length_range] at this
    exact this
  have keep : ∀ (b : Addr) (o : HO), New H b ∧ b ≠ D → H2 b = some o → (upd H2 D (.lst (ys ++ [v]))) b = some o := fun b o m q => by rw [upd_ne m.2]; exact q
  refine ⟨ys, e D _ p3, ?_, p1, Mo.ex_new (p2.trans e) p1 Mo.upd, ys ++ [v], upd_same, ?_⟩
  · rw [sizeLine_eq]; omega
  · rw [List.range_succ, List.filter_append, List.filter_cons_of_pos hf, List.filter_nil, List.map_append]
    refine RpA.app ((p4.ex e).keep keep fun _ q => q) (.cons ?_ .nil)
    exact (hv.sub fun b q => ⟨Evl.fresh_back p2 q, lc_step.ne_of_none' q p3⟩).keep keep fun _ q => q
/-- what a comprehension does with what it walks -/
def LcJ (J : It) (g : TG) (tt : TT) (te : TE) (vs : List Nat) (σ : L2.St) (Q : VK) (H1 : Hp) : Prop := ∀ D, H1 D = none → ∃ W : Nat → Nat → Hp → Prop, (∃ m, W 0 m (upd H1 D (.lst []))) ∧ ∀ i m H, W i m H →
  (J.stop i H ∧ Q (.ref D) H) ∨ (J.go i H ∧ ∃ Nx : Hp → Prop, (∀ H', Nx H' → ∃ m', m' < m ∧ W (i + 1) m' H') ∧ ∀ x H', J.yld i H x H' → g x (wipe σ vs) H' fun σ2 H2 => wipe σ2 vs = wipe σ vs ∧ tt σ2 H2 fun b H3 =>
    if b = true then te σ2 H3 fun y H4 => ∃ acc, H4 D = some (.lst acc) ∧ acc.length < sizeLine ∧ Nx (upd H4 D (.lst (acc ++ [y]))) else Nx H3)
theorem lcJ_in (w : Walk J n G Y) (hY : ∀ i H x H', Y i H x H' → Ex H H') (f : Nat → Bool) (d : Nat → PyData) (hn : n ≤ 1000000) (hG : ∀ H', Ex H H' → G H')
    (hs : ∀ (i : Nat) x H1 H2, i < n → Ex H H1 → Y i H1 x H2 → ∀ (R : Hp → Prop) (Rt : VK), (f i = false → ∀ H3, Ex H2 H3 → R H3) → (f i = true → ∀ v H3, Ex H2 H3 → Rp H3 (New H2) v (d i) → Rt v H3) →
      g x (wipe σ vs) H2 fun σ2 H3 => wipe σ2 vs = wipe σ vs ∧ tt σ2 H3 fun b H4 => if b = true then te σ2 H4 Rt else R H4)
    (k : ∀ v H', Ex H H' → Rp H' (New H) v (.list (((List.range n).filter f).map d)) → Q v H') : LcJ J g tt te vs σ Q H := by
  intro D hD
  refine lc_it w (LcAtF H D f d) (.start hD) (fun i H' _ p => hG H' p.2.1) (fun i x H1 H2 hi p y => ?_) (fun H' p => ?_)
  · have e := hY _ _ _ _ y
    refine hs i x H1 H2 hi p.2.1 y _ _ (fun hf H3 e3 => p.no hf (e.trans e3)) fun hf v H3 e3 hv => p.yes (by omega) hf (e.trans e3) (hv.sub fun b q => Evl.fresh_back e q)
  · obtain ⟨p1, p2, ys, p3, p4⟩ := p
    exact k _ _ p2 (.lst p1 p3 (p4.sub fun b q => q.1))
theorem lcL_g (hx : SqL K H a xs) (f : Nat → Bool) (d : Nat → PyData) (hn : xs.length ≤ 1000000)
    (hs : ∀ (i : Nat) x H1, xs[i]? = some x → Ex H H1 → ∀ (R : Hp → Prop) (Rt : VK), (f i = false → ∀ H3, Ex H1 H3 → R H3) → (f i = true → ∀ v H3, Ex H1 H3 → Rp H3 (New H1) v (d i) → Rt v H3) →
      g x (wipe σ vs) H1 fun σ2 H3 => wipe σ2 vs = wipe σ vs ∧ tt σ2 H3 fun b H4 => if b = true then te σ2 H4 Rt else R H4)
    (k : ∀ v H', Ex H H' → Rp H' (New H) v (.list (((List.range xs.length).filter f).map d)) → Q v H') : LcI (Itl K) (fun H a => ∃ xs, SqL K H a xs) g tt te vs σ Q (.ref a) H := by
  refine ⟨a, rfl, ⟨xs, hx⟩, lcJ_in walk_list ?_ f d hn (fun H' e => Evl.ex_l e hx) ?_ k⟩
  · rintro i H1 x H2 ⟨rfl, _⟩
    exact .refl _
  · rintro i x H1 H2 hi e ⟨rfl, h2⟩ R Rt k1 k2
    exact hs i x _ h2 e R Rt k1 k2
theorem range_map {α β : Type} (l : List α) (f : α → β) (d : Nat → β) (h : ∀ i x, l[i]? = some x → d i = f x) : ((List.range l.length).filter fun _ => true).map d = l.map f := by
  rw [List.filter_eq_self.mpr (fun _ _ => rfl)]
  refine List.ext_getElem? fun i => ?_
  rw [List.getElem?_map, List.getElem?_map]
  by_cases q : i < l.length
  · rw [List.getElem?_range q, List.getElem?_eq_getElem q]
    exact congrArg some (h i _ (List.getElem?_eq_getElem q))
  · rw [List.getElem?_eq_none (by rw [List.length_range]; omega), List.getElem?_eq_none (by omega)]
    rfl
theorem tLc_enum : tLc (iEnum K ta) g tt te vs σ H Q = ta σ H fun us H1 => ∃ a xs, us = [.ref a] ∧ SqL K H1 a xs ∧ LcJ (Ite K a) g tt te vs σ Q H1 := rfl
theorem lcE_in (hx : SqL K H a xs) (f : Nat → Bool) (d : Nat → PyData) (hn : xs.length ≤ 1000000)
    (hs : ∀ (i : Nat) x T H1, xs[i]? = some x → Ex H H1 → H1 T = some (.tup [.int (i : Nat), x]) → ∀ (R : Hp → Prop) (Rt : VK), (f i = false → ∀ H3, Ex H1 H3 → R H3) → (f i = true → ∀ v H3, Ex H1 H3 → Rp H3 (New H1) v (d i) → Rt v H3) →
      g (.ref T) (wipe σ vs) H1 fun σ2 H3 => wipe σ2 vs = wipe σ vs ∧ tt σ2 H3 fun b H4 => if b = true then te σ2 H4 Rt else R H4)
    (k : ∀ v H', Ex H H' → Rp H' (New H) v (.list (((List.range xs.length).filter f).map d)) → Q v H') : LcJ (Ite K a) g tt te vs σ Q H := by
  refine lcJ_in walk_enum ?_ f d hn (fun H' e => Evl.ex_l e hx) ?_ k
  · rintro i H1 x H2 ⟨T, x1, y1, rfl, hT, rfl, _⟩
    exact exn hT
  · rintro i x H1 H2 hi e ⟨T, x1, y1, rfl, hT, rfl, h1, h2⟩ R Rt k1 k2
    cases h1
    exact hs i y1 T _ h2 (e.trans (exn hT)) upd_same R Rt k1 k2
end
theorem tup_fine {ns : List Int} (h : ∀ i ∈ ns, -MED < i ∧ i < MED) (hl : ns.length ≤ 1000) : fine 20 (.tuple (ns.map PyData.int)) = true ∧ sz (.tuple (ns.map PyData.int)) ≤ 16000000 := by
  refine ⟨fineAll_ints fun i hi => med_log (h i hi).1 (h i hi).2, ?_⟩
  show szAll (ns.map PyData.int) + 3 ≤ 16000000
  rw [szAll_ints]
  omega
theorem lst_fine {ns : List Int} (h : ∀ i ∈ ns, -MED < i ∧ i < MED) (hl : ns.length ≤ 1000) : fine 20 (.list (ns.map PyData.int)) = true ∧ sz (.list (ns.map PyData.int)) ≤ 16000000 := by
  refine ⟨fineAll_ints fun i hi => med_log (h i hi).1 (h i hi).2, ?_⟩
  show szAll (ns.map PyData.int) + 3 ≤ 16000000
  rw [szAll_ints]
  omega
theorem dp_tup {K : PySem.W.Frag} {H : Hp} {a : Addr} {ns : List Int} (h : H a = some (.tup (ns.map V.int))) : Dp K H (.ref a) (.tuple (ns.map PyData.int)) := .tup (sq_t h) dpa_ints
theorem dp_lst {K : PySem.W.Frag} {H : Hp} {a : Addr} {ns : List Int} (h : H a = some (.lst (ns.map V.int))) : Dp K H (.ref a) (.list (ns.map PyData.int)) := .lst (sq_l h) dpa_ints
theorem hu1 {k : Nat} {A : Around} (r : Room k A) : A.units + 1 < cLine := by have := r.units; omega
theorem filter_range (n a b : Nat) (ha : a ≤ b) (hb : b ≤ n) : (List.range n).filter (fun i => decide (a ≤ i ∧ i < b)) = (List.range (b - a)).map (a + ·) := by
  induction n generalizing b with
  | zero =>
    rw [show b - a = 0 by omega]; rfl
  | succ n ih =>
    rw [List.range_succ, List.filter_append]
    by_cases h : b = n + 1
    · subst h
      by_cases h2 : a = n + 1
      · subst h2
        rw [Nat.sub_self, List.filter_eq_nil_iff.mpr (fun i hi h => by have := of_decide_eq_true h; omega), List.filter_cons_of_neg (by simp)]
        rfl
      · rw [show n + 1 - a = n - a + 1 by omega, List.range_succ, List.map_append, List.filter_cons_of_pos (by simp; omega), List.filter_nil, ← ih n (by omega) (Nat.le_refl _)]
        have e1 : (List.range n).filter (fun i => decide (a ≤ i ∧ i < n + 1)) = (List.range n).filter (fun i => decide (a ≤ i ∧ i < n)) := List.filter_congr fun i hi => by
          have := List.mem_range.mp hi
          exact decide_eq_decide.mpr (by omega)
        rw [e1, List.map_cons, List.map_nil, show a + (n - a) = n by omega]
    · rw [ih b ha (by omega), List.filter_cons_of_neg (by simp; omega), List.filter_nil, List.append_nil]

/-! ### isinstance by the name of a type -/
/-- v is the int n (some n), or no int (a bool is none) -/
def NotInt (K : PySem.W.Frag) (H : Hp) (v : V) : Prop := ∃ t b1 b2, TyX K H v (.type t) ∧ kitB t "int" = some b1 ∧ kitB t "bool" = some b2 ∧ (b1 && !b2) = false
def IntOr (K : PySem.W.Frag) (H : Hp) (v : V) : Option Int → Prop
  | some n => v = .int n
  | none => NotInt K H v
def whole (o : Option Int) (lo hi : Int) : Bool := match o with
  | some n => decide (lo ≤ n ∧ n ≤ hi)
  | none => false
theorem kit_int_int : kitB "int" "int" = some true := by decide +kernel
theorem kit_int_bool : kitB "int" "bool" = some false := by decide +kernel

theorem atI_0 {α : Type} {a : α} {l : List α} : atI (a :: l) 0 = some a := atI_nat (j := 0) rfl
theorem atI_1 {α : Type} {a b : α} {l : List α} : atI (a :: b :: l) 1 = some b := atI_nat (j := 1) rfl
theorem atI_2 {α : Type} {a b c : α} {l : List α} : atI (a :: b :: c :: l) 2 = some c := atI_nat (j := 2) rfl
theorem atI_3 {α : Type} {a b c d : α} {l : List α} : atI (a :: b :: c :: d :: l) 3 = some d := atI_nat (j := 3) rfl
theorem atI_4 {α : Type} {a b c d e : α} {l : List α} : atI (a :: b :: c :: d :: e :: l) 4 = some e := atI_nat (j := 4) rfl
theorem atI_5 {α : Type} {a b c d e f : α} {l : List α} : atI (a :: b :: c :: d :: e :: f :: l) 5 = some f := atI_nat (j := 5) rfl
theorem atI_m1 {α : Type} {xs : List α} {v : α} (h : xs[xs.length - 1]? = some v) : atI xs (-1) = some v := by
  have hl := (List.getElem?_eq_some_iff.mp h).1
  unfold atI ixN
  rw [if_neg (by decide), if_pos (by omega)]
  show xs[((-1 : Int) + (xs.length : Int)).toNat]? = some v
  rw [show ((-1 : Int) + (xs.length : Int)).toNat = xs.length - 1 by omega]
  exact h
theorem atI_of {α : Type} {xs : List α} {i : Int} {j : Nat} {v : α} (e : i = (j : Int)) (h : xs[j]? = some v) : atI xs i = some v := by rw [e]; exact atI_nat h
theorem ixN_of {n j : Nat} {i : Int} (e : i = (j : Int)) (h : j < n) : ixN n i = some j := by rw [e]; exact Evl.ixN_nat h
theorem ixN_30 : ixN 3 0 = some 0 := by decide
theorem ixN_31 : ixN 3 1 = some 1 := by decide
theorem ixN_32 : ixN 3 2 = some 2 := by decide
theorem iteN {c A B : Prop} [Decidable c] (h : c) (b : B) : if ¬ c then A else B := by rw [if_neg (fun n => n h)]; exact b
theorem iteY {c A B : Prop} [Decidable c] (h : c) (a : A) : if c then A else B := by rw [if_pos h]; exact a
theorem iteNo {c A B : Prop} [Decidable c] (h : ¬ c) (b : B) : if c then A else B := by rw [if_neg h]; exact b
theorem iteTF {A B : Prop} (h : B) : if true = false then A else B := by rw [if_neg (by decide)]; exact h
theorem iteFF {A B : Prop} (h : A) : if false = false then A else B := by rw [if_pos rfl]; exact h
/-! ### bounds -/
theorem big_pow {a b : Nat} (h : a * b < 100000) {x y : Nat} (hx : x ≤ 2 ^ a) (hy : y ≤ b) : ((x ^ y : Nat) : Int) < BIG := by
  have h1 : x ^ y ≤ (2 ^ a) ^ b := Nat.le_trans (Nat.pow_le_pow_left hx y) (Nat.pow_le_pow_right (Nat.pow_pos (by decide)) hy)
  rw [← Nat.pow_mul] at h1
  have h2 : (2 : Nat) ^ (a * b) < 2 ^ 100000 := Nat.pow_lt_pow_right (by decide) h
  have h3 : x ^ y < 2 ^ 100000 := Nat.lt_of_le_of_lt h1 h2
  unfold BIG
  have e : ((2 : Int) ^ 100000) = ((2 ^ 100000 : Nat) : Int) := by rw [Int.natCast_pow] <;> rfl
  rw [e]
  exact Int.ofNat_lt.mpr h3

/-! ### the end of a law -/
/-- what is known of a law's script -/
theorem passX {P : Program} {w : World} {fr : List Env} {H : Hp} {s s' : Shared} {e : Value} (h : L2.CX P w fr H s (fun _ _ _ => False) e s') : False := by
  obtain ⟨_, _, _, _, _, _, _, _, _, _, _, _, z⟩ := h
  exact z.elim
theorem med_pow {a b : Nat} (h : a * b < 1900) {x y : Nat} (hx : x ≤ 2 ^ a) (hy : y ≤ b) : ((x ^ y : Nat) : Int) < MED := by
  have h1 : x ^ y ≤ (2 ^ a) ^ b := Nat.le_trans (Nat.pow_le_pow_left hx y) (Nat.pow_le_pow_right (Nat.pow_pos (by decide)) hy)
  rw [← Nat.pow_mul] at h1
  have h2 : (2 : Nat) ^ (a * b) < 2 ^ 1900 := Nat.pow_lt_pow_right (by decide) h
  have h3 : x ^ y < 2 ^ 1900 := Nat.lt_of_le_of_lt h1 h2
  unfold MED
  have e : ((2 : Int) ^ 1900) = ((2 ^ 1900 : Nat) : Int) := by rw [Int.natCast_pow] <;> rfl
  rw [e]
  exact Int.ofNat_lt.mpr h3
theorem law_go {P : Program} {w : World} {K : PySem.W.Frag} {mg mb : Str → Option Value} {k : Nat} {fa a : Addr} {fd : FuncData} {x : Str} {sp : Sp} {s : Shared} {vs : List Value} {ns : List Int}
    (inK : K.In s.heap) (hns : s.heap.Ns mainGlobals mg) (hb : s.heap.Ns builtinsNs mb) (hbb : ∀ x : Str, x ≠ "__name__" → mb x = bootBuiltins x)
    (lim : s.heap.NoLimit) (hg : s.gens = #[]) (ha : s.heap.get? a = some { cls := .type "list", data := .seq vs.toArray })
    (hi : IntsAre vs ns) (hl : ns.length ≤ sizeLine) (hr : Room k callerA)
    (F : ∀ base : Heap, K.In base → base.Ns mainGlobals mg → GOk P w K mg base (L2.CX P w) k fa fd [x] sp)
    (bind : ∀ (s : Shared) (u : Value), BindsTo s fd ⟨[u], []⟩ [(x, u)])
    (hsp : ∀ H : Hp, Only H → SqL K H a (ns.map V.int) → sp [.ref a] H (fun v _ => v = .bl true) fun _ _ _ => False) :
    codeAny (model P w) callerA (.call (.ref fa) ⟨[.ref a], []⟩) (fun r s' => r = .ok (.ret (.bool true)) ∧ OldK s.heap s'.heap ∧ s'.os = s.os ∧ AllBare s'.gens) s := by
  have rv := vals_ints hi
  have lenV := hi.length
  suffices main : ∀ H : Hp, Only H → SqL K H a (ns.map V.int) → HOk P w H s.heap → (∀ b o, H b = some o → b = a ∧ K.lookup a = none) →
      codeAny (model P w) callerA (.call (.ref fa) ⟨[.ref a], []⟩) (fun r s' => r = .ok (.ret (.bool true)) ∧ OldK s.heap s'.heap ∧ s'.os = s.os ∧ AllBare s'.gens) s by
    cases hk : K.lookup a with
    | some o =>
      have e := (inK a o hk).symm.trans ha
      cases e
      exact main (fun _ => none) (fun _ => .inl rfl) (.inr ⟨_, vs.toArray, _, hk, rfl, rfl, rfl, by rw [List.size_toArray, lenV]; exact hl, by simpa using rv⟩)
        (fun _ _ z => nomatch z) (fun _ _ z => nomatch z)
    | none =>
      let ob : Obj := { cls := .type "list", data := .seq vs.toArray }
      have at_ : ∀ b u, (if b = a then some (HO.frz ob (.lst (ns.map V.int))) else none) = some u → b = a ∧ u = .frz ob (.lst (ns.map V.int)) := fun b u z => by
        by_cases q : b = a
        · rw [if_pos q] at z; exact ⟨q, (Option.some.inj z).symm⟩
        · rw [if_neg q] at z; cases z
      refine main (fun b => if b = a then some (.frz ob (.lst (ns.map V.int))) else none) (fun b => ?_) (.inl (.inr ⟨ob, if_pos rfl⟩)) (fun b u z => ?_) (fun b u z => ⟨(at_ b u z).1, hk⟩)
      · by_cases q : b = a
        · exact .inr ⟨_, _, if_pos q⟩
        · exact .inl (if_neg q)
      · obtain ⟨rfl, rfl⟩ := at_ b u z
        exact ⟨ha, by rw [List.length_map]; exact hl, vs, _, rv, ha⟩
  intro H hO hS hok hA
  have seen : ∀ {b : Addr} {o : Obj}, s.heap.get? b = some o → H b = none → (hidT s.heap H).get? b = some o := fun e n => hidT_get e n
  have nsK : ∀ {b : Addr} {m : Str → Option Value}, s.heap.Ns b m → (hidT s.heap H).Ns b m := by
    rintro b m ⟨o, es, ep, e, d, r⟩
    refine ⟨o, es, ep, seen e ?_, d, r⟩
    cases q : H b with
    | none => rfl
    | some u =>
      rw [(hA b u q).1, ha] at e
      cases e
      cases (show Data.seq vs.toArray _ = Data.dict es ep from d)
  have KB : K.In (hidT s.heap H) := fun b o e => seen (inK b o e) (by
    cases q : H b with
    | none => rfl
    | some u =>
      obtain ⟨e1, e2⟩ := hA b u q
      rw [e1, e2] at e
      cases e)
  obtain ⟨mc, l1, l2⟩ := lim
  have M : Mod K mg (hidT s.heap H) := ⟨KB, nsK hns, ⟨mb, nsK hb, hbb⟩, ⟨mc, nsK l1, l2⟩⟩
  have e0 : Env0 P w K mg (hidT s.heap H) callerA [] s H :=
    ⟨rfl, M, fun b o e => of_hidT e, Nat.le_of_eq (hidT_size _ _), trivial, fun b hb => (List.not_mem_nil (show b ∈ ([] : List Addr) from hb)).elim, hok, .of_eq hg⟩
  refine codeAny_mono ((F _ KB (nsK hns)).go callerA [] s H ⟨[.ref a], []⟩ [.ref a] [.ref a] _ _ hr rfl e0 (bind s (.ref a)) (.cons rfl .nil) (hsp H hO hS)) ?_
  rintro (e | fl) s' h
  · exact (passX h).elim
  · cases fl with
    | ret u =>
      obtain ⟨v, H', os, bare, un, hok', r', q⟩ := h
      cases (show v = .bl true from q)
      cases (show u = Value.bool true from r')
      refine ⟨rfl, OldK.of_keep fun b o e => ?_, os, bare⟩
      cases q : H b with
      | none => exact un.keep b o e q (fun z => List.not_mem_nil (show b ∈ ([] : List Addr) from z)) (by simp)
      | some u =>
        rcases hO b with z | ⟨ob, xs, z⟩
        · rw [q] at z; cases z
        · have e1 : s.heap.get? b = some ob := (hok b _ z).1
          have e2 : s'.heap.get? b = some ob := (hok' b _ (un.frzs b ob _ z)).1
          rw [e1] at e
          rw [e2, e]
    | _ => exact h.elim
/-- the goal behind the head, from the promise of the law's def -/
theorem walk_g {l : PySem.W.OpenLaw} {n k : Nat} {q : Program} {loose : List Str} {XP : (Str → Option Value) → Heap → Prop} {YP : World → Heap → Prop} {d : DefRec} {x : Str}
    (hn : l.most = some n) (hn2 : n ≤ sizeLine) (hdf : d.params.defaults = []) (hr : Room k callerA)
    (F : ∀ (w : World) (mg : Str → Option Value) (fa : Addr) (h : Heap), YP w h → h.Ns mainGlobals mg → mg d.name = some (.ref fa) →
      ∃ (K : PySem.W.Frag) (fd : FuncData) (sp : Sp), K.In h ∧ (∀ (s : Shared) (u : Value), BindsTo s fd ⟨[u], []⟩ [(x, u)]) ∧
        (∀ (H : Hp) (a : Addr) (ns : List Int), ns.length ≤ n → Only H → SqL K H a (ns.map V.int) → sp [.ref a] H (fun v _ => v = .bl true) fun _ _ _ => False) ∧
        ∀ base : Heap, K.In base → base.Ns mainGlobals mg → GOk l.prog w K mg base (L2.CX l.prog w) k fa fd [x] sp) :
    PySem.W.WalkO q loose XP YP l.row.toRowW d [] (fun f vs => PySem.call f vs) := by
  refine Att.attach_call hn hdf ?_
  intro w s₀ s₁ mg mb fa o pm cd doc a vs ns G Y ho hd hcd hmg hobj hints hlen hg
  obtain ⟨K, fd, sp, KX, hb, hsp, hF⟩ := F w mg fa _ Y G.T.g hmg
  exact law_go KX G.T.g G.T.b G.T.builtins G.T.nolimit hg hobj hints (Nat.le_trans hlen hn2) hr hF hb fun H hO hS => hsp H a ns hlen hO hS
theorem law_in {K : PySem.W.Frag} {H : Hp} {a : Addr} {ns : List Int} (hl : ns.length ≤ 63) (hS : SqL K H a (ns.map V.int)) {Q : VK} {E : XK} (hQ : ∀ H', Q (.bl true) H') :
    sp1 (fun x H Q _ => ∃ (a : Addr) (ns : List Int), x = .ref a ∧ SqL K H a (ns.map V.int) ∧ ns.length ≤ 63 ∧ ∀ H', Q (.bl true) H') [.ref a] H Q E := ⟨_, rfl, a, ns, rfl, hS, hl, hQ⟩
end Bs

namespace Bs
/-! ### reaches: the ways to choose, by adding up -/
def R : Nat → Nat → Nat
  | 0 => fun _ => 1
  | s + 1 => fun r => Nat.rec (motive := fun _ => Nat) 1 (fun k ih => R s (k + 1) + ih) r
theorem R_z (s : Nat) : R s 0 = 1 := by cases s <;> rfl
theorem R_0 (r : Nat) : R 0 r = 1 := rfl
theorem R_ss (s r : Nat) : R (s + 1) (r + 1) = R s (r + 1) + R (s + 1) r := rfl
theorem R_comm : ∀ s r : Nat, R s r = R r s
  | 0, r => by rw [R_0, R_z]
  | s + 1, 0 => by rw [R_0, R_z]
  | s + 1, r + 1 => by rw [R_ss, R_ss, R_comm s (r + 1), R_comm (s + 1) r, Nat.add_comm]
theorem R_pos (s r : Nat) : 0 < R s r := by
  induction s generalizing r with
  | zero => rw [R_0]; decide
  | succ s ih =>
    cases r with
    | zero => rw [R_z]; decide
    | succ r => rw [R_ss]; have := ih (r + 1); omega
/-- one slot more: times s + r + 1, over s + 1 -/
theorem R_up : ∀ s r : Nat, R (s + 1) r * (s + 1) = R s r * (s + r + 1)
  | 0, 0 => rfl
  | 0, r + 1 => by
    have ih := R_up 0 r
    rw [R_0] at ih ⊢
    rw [R_ss, R_0]
    omega
  | s + 1, 0 => by rw [R_z, R_z]
  | s + 1, r + 1 => by
    have h1 := R_up s (r + 1)
    have h2 := R_up (s + 1) r
    rw [R_ss (s + 1) r, Nat.add_mul, h2]
    rw [R_ss s r]
    rw [R_ss s r] at h1
    -- h1: (A + B)(s+1) = A (s + r + 2), A = R s (r+1), B = R (s+1) r
    generalize R s (r + 1) = A at *
    generalize R (s + 1) r = B at *
    have e1 : (A + B) * (s + 1) = A * s + A + B * s + B := by
      rw [Nat.mul_add, Nat.add_mul, Nat.mul_one]; omega
    have e2 : A * (s + (r + 1) + 1) = A * s + A * r + A + A := by
      rw [Nat.mul_add, Nat.mul_add, Nat.mul_add]; omega
    have e3 : (A + B) * (s + 1 + 1) = A * s + B * s + A + A + B + B := by
      rw [Nat.mul_add, Nat.mul_add, Nat.add_mul]; omega
    have e4 : B * (s + 1 + r + 1) = B * s + B + B * r + B := by
      rw [Nat.mul_add, Nat.mul_add, Nat.mul_add]; omega
    have e6 : ∀ X : Nat, X * (s + 1 + (r + 1) + 1) = X * s + X * r + X + X + X := fun X => by
      rw [Nat.mul_add, Nat.mul_add, Nat.mul_add, Nat.mul_add]; omega
    have e5 : (A + B) * (s + 1 + (r + 1) + 1) = A * s + A * r + A + A + A + (B * s + B * r + B + B + B) := by
      rw [Nat.add_mul, e6, e6]
    rw [e1, e2] at h1
    rw [e3, e4, e5]
    omega
theorem R_right (s r : Nat) : R s (r + 1) * (r + 1) = R s r * (s + r + 1) := by
  rw [R_comm s (r + 1), R_up r s, R_comm r s, Nat.add_comm r s]
theorem R_le : ∀ s r : Nat, R s r ≤ (r + 1) ^ s
  | 0, r => by rw [R_0, Nat.pow_zero]; exact Nat.le_refl _
  | s + 1, 0 => by rw [R_z]; exact Nat.pos_of_ne_zero (by simp)
  | s + 1, r + 1 => by
    have h1 := R_le s (r + 1)
    have h2 := R_le (s + 1) r
    rw [R_ss, Nat.pow_succ, Nat.mul_add, Nat.mul_one]
    have h3 : (r + 1) ^ (s + 1) ≤ (r + 1 + 1) ^ s * (r + 1) := by
      rw [Nat.pow_succ]
      exact Nat.mul_le_mul_right _ (Nat.pow_le_pow_left (Nat.le_succ _) s)
    omega
theorem R_mono_r (s r : Nat) : R s r ≤ R s (r + 1) := by
  cases s with
  | zero => exact Nat.le_refl _
  | succ s => rw [R_ss]; omega
theorem R_mono {s r r' : Nat} (h : r ≤ r') : R s r ≤ R s r' := by
  induction h with
  | refl => exact Nat.le_refl _
  | step _ ih => exact Nat.le_trans ih (R_mono_r _ _)
theorem R_mono_l {s s' r : Nat} (h : s ≤ s') : R s r ≤ R s' r := by
  rw [R_comm s, R_comm s']
  exact R_mono h
theorem R_one (r : Nat) : R 1 r = r + 1 := by
  induction r with
  | zero => rfl
  | succ r ih => rw [R_ss, R_0, ih]; omega
/-- with rounds that may be -1 -/
def Rz (s r : Int) : Int := if r < 0 then (if s ≤ 0 then 1 else 0) else (R s.toNat r.toNat : Nat)
theorem Rz_nat (s r : Nat) : Rz s r = (R s r : Nat) := by
  unfold Rz
  rw [if_neg (by omega)]
  rfl
theorem Rz_neg {s : Int} (h : 0 < s) : Rz s (-1) = 0 := by
  unfold Rz
  rw [if_pos (by omega), if_neg (by omega)]
theorem Rz_of {s r : Int} (hs : 0 ≤ s) (hr : 0 ≤ r) : Rz s r = (R s.toNat r.toNat : Nat) := by
  unfold Rz
  rw [if_neg (by omega)]
theorem Rz_zero {r : Int} : Rz 0 r = 1 := by
  unfold Rz
  split <;> rfl
theorem Rz_nonneg (s r : Int) : 0 ≤ Rz s r := by
  unfold Rz
  split
  · split <;> omega
  · omega
theorem Rz_pascal {s r : Int} (h1 : 1 < s) (h2 : 0 < r) : Rz s r = Rz (s - 1) r + Rz s (r - 1) := by
  obtain ⟨s, rfl⟩ := Int.eq_ofNat_of_zero_le (by omega : 0 ≤ s)
  obtain ⟨r, rfl⟩ := Int.eq_ofNat_of_zero_le (by omega : 0 ≤ r)
  obtain ⟨s, rfl⟩ : ∃ t, s = t + 1 := ⟨s - 1, by omega⟩
  obtain ⟨r, rfl⟩ : ∃ t, r = t + 1 := ⟨r - 1, by omega⟩
  rw [show ((s + 1 : Nat) : Int) - 1 = (s : Int) by omega, show ((r + 1 : Nat) : Int) - 1 = (r : Int) by omega, Rz_nat, Rz_nat, Rz_nat, R_ss]
  omega
theorem Rz_comm {s r : Int} (h1 : 0 ≤ s) (h2 : 0 ≤ r) : Rz s r = Rz r s := by
  rw [Rz_of h1 h2, Rz_of h2 h1, R_comm]
theorem Rz_one {r : Int} (h : 0 ≤ r) : Rz 1 r = r + 1 := by
  rw [Rz_of (by decide) h, show (1 : Int).toNat = 1 by rfl, R_one]
  omega
theorem Rz_r0 {s : Int} (h : 0 ≤ s) : Rz s 0 = 1 := by
  rw [Rz_of h (Int.le_refl _), show (0 : Int).toNat = 0 by rfl, R_z]
  rfl
/-- one turn of reach_of -/
theorem Rz_turn {j r : Int} (hj : 0 ≤ j) (hr : -1 ≤ r) : Rz j r * (r + (j + 1)) / (j + 1) = Rz (j + 1) r := by
  by_cases h : r < 0
  · have e : r = -1 := by omega
    subst e
    by_cases h0 : j = 0
    · subst h0; rfl
    · rw [Rz_neg (by omega), Rz_neg (by omega), Int.zero_mul, Int.zero_ediv]
  · obtain ⟨j, rfl⟩ := Int.eq_ofNat_of_zero_le hj
    obtain ⟨r, rfl⟩ := Int.eq_ofNat_of_zero_le (by omega : 0 ≤ r)
    have e1 : Rz (j : Int) r = (R j r : Nat) := Rz_nat j r
    have e2 : Rz ((j : Int) + 1) r = (R (j + 1) r : Nat) := Rz_nat (j + 1) r
    rw [e1, e2]
    have h := R_up j r
    have h2 : ((R j r : Nat) : Int) * ((r : Int) + ((j : Int) + 1)) = ((R (j + 1) r : Nat) : Int) * ((j : Int) + 1) := by
      have : (r : Int) + ((j : Int) + 1) = ((j + r + 1 : Nat) : Int) := by omega
      rw [this, show ((j : Int) + 1) = ((j + 1 : Nat) : Int) by omega, ← Int.natCast_mul, ← Int.natCast_mul, h]
    rw [h2]
    exact Int.mul_ediv_cancel _ (by omega)
/-- one turn of choosing from above: over n = s + r things, j of them -/
theorem R_turn {s r j : Nat} (hj : j < s + r) : R j (s + r - j) * (s + r - j) = R (j + 1) (s + r - (j + 1)) * (j + 1) := by
  obtain ⟨m, hm⟩ : ∃ m, s + r = j + 1 + m := ⟨s + r - (j + 1), by omega⟩
  rw [hm, show j + 1 + m - j = m + 1 by omega, show j + 1 + m - (j + 1) = m by omega]
  rw [R_right j m, R_up j m]
end Bs

namespace Bs
/-! ### rounds -/
def rhoA (s n : Nat) : Nat → Nat → Nat
  | 0, r => r
  | k + 1, r => if n ≤ R s r then r else rhoA s n k (r + 1)
/-- the least number of rounds that reach n states (1 slot or more) -/
def rhoN (n s : Nat) : Nat := rhoA s n n 0
theorem R_gt {s : Nat} (h : 1 ≤ s) (r : Nat) : r + 1 ≤ R s r := by
  have := R_mono_l (s := 1) (s' := s) (r := r) h
  rw [R_one] at this
  exact this
theorem rhoA_spec {s n : Nat} : ∀ (k r : Nat), n ≤ R s (r + k) → n ≤ R s (rhoA s n k r) ∧ r ≤ rhoA s n k r ∧ ∀ q, r ≤ q → q < rhoA s n k r → R s q < n
  | 0, r, h => ⟨h, Nat.le_refl _, fun q h1 h2 => by simp [rhoA] at h2; omega⟩
  | k + 1, r, h => by
    unfold rhoA
    split
    · rename_i h1
      exact ⟨h1, Nat.le_refl _, fun q h2 h3 => by omega⟩
    · rename_i h1
      obtain ⟨a, b, c⟩ := rhoA_spec k (r + 1) (by rw [show r + 1 + k = r + (k + 1) by omega]; exact h)
      refine ⟨a, by omega, fun q h2 h3 => ?_⟩
      by_cases e : q = r
      · subst e; omega
      · exact c q (by omega) h3
theorem rhoN_spec {n s : Nat} (h : 1 ≤ s) : n ≤ R s (rhoN n s) ∧ ∀ q, q < rhoN n s → R s q < n := by
  have h1 := R_gt h n
  obtain ⟨a, b, c⟩ := rhoA_spec (s := s) (n := n) n 0 (by rw [Nat.zero_add]; omega)
  exact ⟨a, fun q hq => c q (Nat.zero_le _) hq⟩
theorem rhoN_eq {n s r : Nat} (h : 1 ≤ s) (h1 : n ≤ R s r) (h2 : ∀ q, q < r → R s q < n) : rhoN n s = r := by
  obtain ⟨a, b⟩ := rhoN_spec (n := n) h
  rcases Nat.lt_trichotomy (rhoN n s) r with h3 | h3 | h3
  · have := h2 _ h3; omega
  · exact h3
  · have := b _ h3; omega
/-- the same over the ints -/
def rho (n s : Int) : Int := (rhoN n.toNat s.toNat : Nat)
theorem rho_nonneg (n s : Int) : 0 ≤ rho n s := by unfold rho; omega
theorem Rz_mono {s r r' : Int} (hs : 0 ≤ s) (h : r ≤ r') (h0 : -1 ≤ r) : Rz s r ≤ Rz s r' := by
  by_cases hr : r < 0
  · have e : r = -1 := by omega
    subst e
    by_cases h2 : s = 0
    · subst h2; rw [Rz_zero, Rz_zero]; exact Int.le_refl _
    · rw [Rz_neg (by omega)]; exact Rz_nonneg _ _
  · rw [Rz_of hs (by omega), Rz_of hs (by omega)]
    exact Int.ofNat_le.mpr (R_mono (by omega))
theorem Rz_gt {s r : Int} (hs : 1 ≤ s) (hr : 0 ≤ r) : r + 1 ≤ Rz s r := by
  rw [Rz_of (by omega) hr]
  have := R_gt (s := s.toNat) (by omega) r.toNat
  omega
theorem rho_reach {n s : Int} (hs : 1 ≤ s) : n ≤ Rz s (rho n s) := by
  unfold rho
  rw [Rz_of (by omega) (by omega)]
  have := (rhoN_spec (n := n.toNat) (s := s.toNat) (by omega)).1
  simp only [Int.toNat_natCast]
  omega
theorem rho_least {n s q : Int} (hn : 1 ≤ n) (hs : 1 ≤ s) (h0 : -1 ≤ q) (h : q < rho n s) : Rz s q < n := by
  by_cases hq : q < 0
  · have e : q = -1 := by omega
    subst e
    rw [Rz_neg (by omega)]; omega
  · rw [Rz_of (by omega) (by omega)]
    have := (rhoN_spec (n := n.toNat) (s := s.toNat) (by omega)).2 q.toNat (by unfold rho at h; omega)
    omega
theorem rho_eq {n s r : Int} (hn : 1 ≤ n) (hs : 1 ≤ s) (h0 : 0 ≤ r) (h1 : n ≤ Rz s r) (h2 : Rz s (r - 1) < n) : rho n s = r := by
  rcases Int.lt_trichotomy (rho n s) r with h | h | h
  · have a := rho_reach (n := n) hs
    have b := Rz_mono (s := s) (r := rho n s) (r' := r - 1) (by omega) (by omega) (by have := rho_nonneg n s; omega)
    omega
  · exact h
  · have := rho_least (q := r) hn hs (by omega) h
    omega
theorem rho_le {n s r : Int} (hn : 1 ≤ n) (hs : 1 ≤ s) (h0 : 0 ≤ r) : rho n s ≤ r ↔ n ≤ Rz s r := by
  constructor
  · intro h
    exact Int.le_trans (rho_reach hs) (Rz_mono (by omega) h (by have := rho_nonneg n s; omega))
  · intro h
    by_cases h2 : rho n s ≤ r
    · exact h2
    · have := rho_least (q := r) hn hs (by omega) (by omega)
      omega
theorem rho_lt {n s : Int} (hn : 1 ≤ n) (hs : 1 ≤ s) : rho n s < n := by
  have := (rho_le (n := n) (s := s) (r := n - 1) hn hs (by omega)).mpr (by have := Rz_gt (s := s) (r := n - 1) hs (by omega); omega)
  omega
/-! ### the least steps -/
def tz (n s : Int) : Int := rho n s * n - Rz (s + 1) (rho n s - 1)
/-- one round more or less is never more -/
theorem Rz_next {s r : Int} (hs : 0 ≤ s) (hr : 0 ≤ r) : Rz (s + 1) r = Rz s r + Rz (s + 1) (r - 1) := by
  by_cases h : r = 0
  · subst h
    rw [Rz_r0 (by omega), Rz_r0 hs, show (0 : Int) - 1 = -1 by rfl, Rz_neg (by omega)]
    rfl
  · by_cases h2 : s = 0
    · subst h2
      rw [show (0 : Int) + 1 = 1 by rfl, Rz_zero, Rz_one hr, Rz_one (by omega)]
      omega
    · have := Rz_pascal (s := s + 1) (r := r) (by omega) (by omega)
      rw [show s + 1 - 1 = s by omega] at this
      exact this
/-- the line of k rounds at n -/
def lin (n s k : Int) : Int := k * n - Rz (s + 1) (k - 1)
theorem lin_step {n s k : Int} (hs : 0 ≤ s) (hk : 0 ≤ k) : lin n s (k + 1) = lin n s k + (n - Rz s k) := by
  unfold lin
  rw [show k + 1 - 1 = k by omega, Rz_next hs hk, Int.add_mul, Int.one_mul]
  omega
theorem lin_up {n s : Int} (hs : 0 ≤ s) (k : Int) (hk : 0 ≤ k) : ∀ d : Nat, n ≤ Rz s k → lin n s (k + d) ≤ lin n s k
  | 0, _ => by simp
  | d + 1, h => by
    have ih := lin_up hs k hk d h
    have e := lin_step (n := n) (k := k + d) hs (by omega)
    have m := Rz_mono (s := s) (r := k) (r' := k + d) hs (by omega) (by omega)
    rw [show k + ((d + 1 : Nat) : Int) = k + d + 1 by omega, e]
    omega
theorem lin_down {n s : Int} (hs : 0 ≤ s) (k : Int) : ∀ d : Nat, 0 ≤ k - d → Rz s (k - 1) ≤ n → lin n s (k - d) ≤ lin n s k
  | 0, _, _ => by simp
  | d + 1, h0, h => by
    have ih := lin_down hs k d (by omega) h
    have e := lin_step (n := n) (k := k - (d + 1 : Nat)) hs h0
    have m := Rz_mono (s := s) (r := k - (d + 1 : Nat)) (r' := k - 1) hs (by omega) (by omega)
    rw [show k - ((d + 1 : Nat) : Int) + 1 = k - d by omega] at e
    omega
theorem tz_lin {n s : Int} : tz n s = lin n s (rho n s) := rfl
/-- t is the greatest of its lines -/
theorem tz_ge {n s k : Int} (hn : 1 ≤ n) (hs : 1 ≤ s) (hk : 0 ≤ k) : lin n s k ≤ tz n s := by
  rw [tz_lin]
  have h0 := rho_nonneg n s
  rcases Int.le_total (rho n s) k with h | h
  · have := lin_up (n := n) (s := s) (by omega) (rho n s) h0 (k - rho n s).toNat (rho_reach hs)
    rw [show rho n s + ((k - rho n s).toNat : Int) = k by omega] at this
    exact this
  · have h1 : Rz s (rho n s - 1) ≤ n := Int.le_of_lt (rho_least hn hs (by omega) (by omega))
    have := lin_down (n := n) (s := s) (by omega) (rho n s) (rho n s - k).toNat (by omega) h1
    rw [show rho n s - ((rho n s - k).toNat : Int) = k by omega] at this
    exact this
/-- .. and is the line of k rounds just where these reach -/
theorem tz_at {n s k : Int} (hn : 1 ≤ n) (hs : 1 ≤ s) (hk : 0 ≤ k) (h1 : Rz s (k - 1) ≤ n) (h2 : n ≤ Rz s k) : tz n s = lin n s k := by
  have h0 := rho_nonneg n s
  have hle : rho n s ≤ k := (rho_le hn hs hk).mpr h2
  by_cases e : rho n s = k
  · rw [tz_lin, e]
  · have hr := rho_reach (n := n) hs
    have hm := Rz_mono (s := s) (r := rho n s) (r' := k - 1) (by omega) (by omega) (by omega)
    have a := tz_ge (k := k) hn hs hk
    have b := lin_down (n := n) (s := s) (by omega) k (k - rho n s).toNat (by omega) h1
    rw [show k - ((k - rho n s).toNat : Int) = rho n s by omega] at b
    rw [tz_lin] at a ⊢
    omega
theorem tz_gt {n s k : Int} (hn : 1 ≤ n) (hs : 1 ≤ s) (hk : 0 ≤ k) (h : n < Rz s (k - 1) ∨ Rz s k < n) : lin n s k < tz n s := by
  rcases h with h | h
  · have hk1 : 1 ≤ k := by
      by_cases e : k = 0
      · subst e
        rw [show (0 : Int) - 1 = -1 by rfl, Rz_neg (by omega)] at h
        omega
      · omega
    have a := tz_ge (k := k - 1) hn hs (by omega)
    have e := lin_step (n := n) (s := s) (k := k - 1) (by omega) (by omega)
    rw [show k - 1 + 1 = k by omega] at e
    omega
  · have a := tz_ge (k := k + 1) hn hs (by omega)
    have e := lin_step (n := n) (s := s) (k := k) (by omega) hk
    omega
theorem rho_one {s : Int} (hs : 1 ≤ s) : rho 1 s = 0 := rho_eq (Int.le_refl _) hs (Int.le_refl _) (by rw [Rz_r0 (by omega)]; exact Int.le_refl _) (by rw [show (0 : Int) - 1 = -1 by rfl, Rz_neg (by omega)]; decide)
theorem rho_pos {n s : Int} (hn : 2 ≤ n) (hs : 1 ≤ s) : 1 ≤ rho n s := by
  have h0 := rho_nonneg n s
  have h := rho_reach (n := n) hs
  by_cases e : rho n s = 0
  · rw [e, Rz_r0 (by omega)] at h; omega
  · omega
theorem tz_one {s : Int} (hs : 1 ≤ s) : tz 1 s = 0 := by
  unfold tz
  rw [rho_one hs, show (0 : Int) - 1 = -1 by rfl, Rz_neg (by omega)]
  rfl
theorem tz_nonneg {n s : Int} (hn : 1 ≤ n) (hs : 1 ≤ s) : 0 ≤ tz n s := by
  have := tz_ge (k := 0) hn hs (Int.le_refl _)
  unfold lin at this
  rw [show (0 : Int) - 1 = -1 by rfl, Rz_neg (by omega)] at this
  omega
/-! ### splits -/
def fz (n s m : Int) : Int := m + tz (n - m) (s - 1) + tz m s
theorem lin_split {n s m r : Int} (hs : 2 ≤ s) (hr : 1 ≤ r) : m + lin (n - m) (s - 1) r + lin m s (r - 1) = lin n s r := by
  unfold lin
  have e := Rz_next (s := s) (r := r - 1) (by omega) (by omega)
  rw [show s - 1 + 1 = s by omega, show r - 1 - 1 = r - 2 by omega] at *
  rw [e, Int.mul_sub, Int.sub_mul, Int.one_mul]
  omega
/-- no split is better -/
theorem tz_le_fz {n s m : Int} (hs : 2 ≤ s) (h1 : 1 ≤ m) (h2 : m < n) : tz n s ≤ fz n s m := by
  have hr := rho_pos (n := n) (s := s) (by omega) (by omega)
  have e := lin_split (n := n) (m := m) hs hr
  have a := tz_ge (n := n - m) (s := s - 1) (k := rho n s) (by omega) (by omega) (by omega)
  have b := tz_ge (n := m) (s := s) (k := rho n s - 1) h1 (by omega) (by omega)
  unfold fz
  rw [tz_lin (n := n)]
  omega
/-- the stretch of the best ones -/
def Best (n s m : Int) : Prop := Rz s (rho n s - 2) ≤ m ∧ m ≤ Rz s (rho n s - 1) ∧ Rz (s - 1) (rho n s - 1) ≤ n - m ∧ n - m ≤ Rz (s - 1) (rho n s)
theorem tz_best {n s m : Int} (hs : 2 ≤ s) (h1 : 1 ≤ m) (h2 : m < n) (h : Best n s m) : fz n s m = tz n s := by
  have hr := rho_pos (n := n) (s := s) (by omega) (by omega)
  have e := lin_split (n := n) (m := m) hs hr
  obtain ⟨b1, b2, b3, b4⟩ := h
  have a := tz_at (n := n - m) (s := s - 1) (k := rho n s) (by omega) (by omega) (by omega) b3 b4
  have b := tz_at (n := m) (s := s) (k := rho n s - 1) h1 (by omega) (by omega) (by rw [show rho n s - 1 - 1 = rho n s - 2 by omega]; exact b1) b2
  unfold fz
  rw [a, b, tz_lin (n := n)]
  omega
theorem tz_lt_fz {n s m : Int} (hs : 2 ≤ s) (h1 : 1 ≤ m) (h2 : m < n) (h : ¬ Best n s m) : tz n s < fz n s m := by
  have hr := rho_pos (n := n) (s := s) (by omega) (by omega)
  have e := lin_split (n := n) (m := m) hs hr
  have a := tz_ge (n := n - m) (s := s - 1) (k := rho n s) (by omega) (by omega) (by omega)
  have b := tz_ge (n := m) (s := s) (k := rho n s - 1) h1 (by omega) (by omega)
  have c : lin (n - m) (s - 1) (rho n s) < tz (n - m) (s - 1) ∨ lin m s (rho n s - 1) < tz m s := by
    unfold Best at h
    by_cases q1 : Rz (s - 1) (rho n s - 1) ≤ n - m ∧ n - m ≤ Rz (s - 1) (rho n s)
    · refine .inr (tz_gt h1 (by omega) (by omega) ?_)
      rw [show rho n s - 1 - 1 = rho n s - 2 by omega]
      omega
    · exact .inl (tz_gt (by omega) (by omega) (by omega) (by omega))
  unfold fz
  rw [tz_lin (n := n)]
  omega
/-- there is a best one -/
theorem best_is {n s : Int} (hn : 2 ≤ n) (hs : 2 ≤ s) : ∃ m, 1 ≤ m ∧ m < n ∧ Best n s m := by
  have hr := rho_pos (n := n) (s := s) hn (by omega)
  have h1 := rho_reach (n := n) (s := s) (by omega)
  have h2 := rho_least (n := n) (s := s) (q := rho n s - 1) (by omega) (by omega) (by omega) (by omega)
  unfold Best
  generalize rho n s = r at *
  have e1 := Rz_next (s := s - 1) (r := r) (by omega) (by omega)
  rw [show s - 1 + 1 = s by omega] at e1
  have p1 : 1 ≤ Rz s (r - 1) := by have := Rz_gt (s := s) (r := r - 1) (by omega) (by omega); omega
  have p2 : 1 ≤ Rz (s - 1) (r - 1) := by have := Rz_gt (s := s - 1) (r := r - 1) (by omega) (by omega); omega
  have e2 := Rz_next (s := s - 1) (r := r - 1) (by omega) (by omega)
  rw [show s - 1 + 1 = s by omega, show r - 1 - 1 = r - 2 by omega] at e2
  have m1 := Rz_mono (s := s) (r := r - 2) (r' := r - 1) (by omega) (by omega) (by omega)
  have m2 := Rz_mono (s := s - 1) (r := r - 1) (r' := r) (by omega) (by omega) (by omega)
  have p0 := Rz_nonneg s (r - 2)
  -- the greatest of the lower ends
  refine ⟨max 1 (max (Rz s (r - 2)) (n - Rz (s - 1) r)), by omega, by omega, ?_⟩
  omega
/-- least and greatest best -/
def loz (n s : Int) : Int := max (max 1 (if rho n s > 1 then Rz s (rho n s - 2) else 0)) (n - Rz (s - 1) (rho n s))
def hiz (n s : Int) : Int := min (min (n - 1) (Rz s (rho n s - 1))) (n - Rz (s - 1) (rho n s - 1))
theorem best_iff {n s m : Int} (hn : 2 ≤ n) (hs : 2 ≤ s) (h1 : 1 ≤ m) (h2 : m < n) : Best n s m ↔ loz n s ≤ m ∧ m ≤ hiz n s := by
  have hr := rho_pos (n := n) (s := s) hn (by omega)
  unfold Best loz hiz
  by_cases e : rho n s > 1
  · rw [if_pos e]; omega
  · rw [if_neg e, show rho n s - 2 = -1 by omega, Rz_neg (by omega)]; omega
theorem loz_range {n s : Int} (hn : 2 ≤ n) (hs : 2 ≤ s) : 1 ≤ loz n s ∧ loz n s ≤ hiz n s ∧ hiz n s < n := by
  obtain ⟨m, h1, h2, h3⟩ := best_is hn hs
  obtain ⟨a, b⟩ := (best_iff hn hs h1 h2).mp h3
  refine ⟨?_, by omega, ?_⟩
  · unfold loz; omega
  · unfold hiz; omega
theorem tz_slot1 {n : Int} (hn : 1 ≤ n) : 2 * tz n 1 = n * (n - 1) := by
  have e : rho n 1 = n - 1 := rho_eq hn (Int.le_refl _) (by omega) (by rw [Rz_one (by omega)]; omega) (by
    by_cases h : n = 1
    · subst h; rw [show (1 : Int) - 1 - 1 = -1 by rfl, Rz_neg (by decide)]; decide
    · rw [Rz_one (by omega)]; omega)
  unfold tz
  rw [e, show (1 : Int) + 1 = 2 by rfl]
  have h2 : ∀ k : Nat, 2 * Rz 2 ((k : Int) - 1) = ((k : Int) + 1) * k := by
    intro k
    induction k with
    | zero => rw [show ((0 : Nat) : Int) - 1 = -1 by rfl, Rz_neg (by decide)]; rfl
    | succ k ih =>
      have e := Rz_next (s := 1) (r := (k : Int)) (by decide) (by omega)
      rw [show (1 : Int) + 1 = 2 by rfl, Rz_one (by omega)] at e
      rw [show ((k + 1 : Nat) : Int) - 1 = (k : Int) by omega, e]
      have e3 : (((k + 1 : Nat) : Int) + 1) * ((k + 1 : Nat) : Int) = ((k : Int) + 1) * k + 2 * ((k : Int) + 1) := by
        rw [show ((k + 1 : Nat) : Int) = (k : Int) + 1 by omega, Int.mul_add, Int.add_mul ((k : Int) + 1) 1 (k : Int)]
        omega
      rw [e3]
      omega
  obtain ⟨k, hk⟩ := Int.eq_ofNat_of_zero_le (show 0 ≤ n - 1 by omega)
  have e4 := h2 k
  rw [show n - 1 - 1 = (k : Int) - 1 by omega, hk]
  have e5 : n = (k : Int) + 1 := by omega
  rw [e5] at *
  rw [Int.mul_sub, e4, Int.mul_comm ((k : Int) + 1) (k : Int)]
  omega
end Bs

namespace Bs
open PySem PySem.Spec PyProof.Rows L2
open Evl (Ex)
/-! ### a caught exception that is kept: it is tracked -/
def EV (cls : Value) (d : Option Addr) (a : Addr) : HO :=
  .ext fun h => ∃ oe vs, h.get? a = some oe ∧ Zc cls d oe ∧ oe.data = Data.fields vs
theorem ev_ok {P : Program} {w : World} {H : Hp} {h : Heap} {a : Addr} {cls : Value} {d : Option Addr} {oe : Obj} {vs : Array Value}
    (e : h.get? a = some oe) (z : Zc cls d oe) (q : oe.data = Data.fields vs) : ObjOk P w H h a (EV cls d a) :=
  ⟨⟨oe, vs, e, z, q⟩, ⟨oe, e⟩, fun _ _ y k => by
    obtain ⟨o, u, y1, y2⟩ := y
    exact ⟨o, u, k o y1, y2⟩⟩
theorem ev_at {P : Program} {w : World} {H : Hp} {h : Heap} {a : Addr} {cls : Value} {d : Option Addr} (hok : HOk P w H h) (he : H a = some (EV cls d a)) :
    ∃ oe vs, h.get? a = some oe ∧ Zc cls d oe ∧ oe.data = Data.fields vs := by
  have x : ObjOk P w H h a (HO.ext fun h => ∃ oe vs, h.get? a = some oe ∧ Zc cls d oe ∧ oe.data = Data.fields vs) := hok a _ he
  exact x.1
section
variable {X : Cx} {pins : List (Addr × Obj)} {σ : L2.St} {H : Hp} {s : Shared}
/-- what stands already, new to the def, is tracked from now on -/
theorem inv_track {a : Addr} {o : HO} (I : Inv X pins σ H s) (na : H a = none) (n0 : X.s_0.heap.get? a = none) (nL : a ≠ X.env.locals)
    (nC : ∀ x c, X.env.cells.lookup x = some c → c ≠ a) (nP : ∀ p ∈ X.pn ++ pins, p.1 ≠ a) (new : ObjOk X.prog X.w (upd H a o) s.heap a o) : Inv X pins σ (upd H a o) s := by
  have up : ∀ {b : Addr} {u : HO}, H b = some u → upd H a o b = some u := fun {b u} q => by rw [upd_ne (ne_of_none q na), q]
  have un : ∀ {b : Addr}, b ≠ a → H b = none → upd H a o b = none := fun {b} n q => by rw [upd_ne n, q]
  refine ⟨I.ok, I.os, I.bare, ⟨I.base.keep, I.base.slot, ?_, I.base.there, ?_, ?_, ?_⟩, I.loc, I.cell, un (Ne.symm nL) I.free, ?_, ?_, ?_, I.len⟩
  · intro b u e n hx
    exact un (fun z => by rw [z, n0] at e; cases e) (I.base.free b u e n hx)
  · intro b xs e
    exact up (I.base.tups b xs e)
  · intro b u xs e
    exact up (I.base.frzs b u xs e)
  · intro b ps e
    obtain ⟨m, q⟩ := I.base.tbls b ps e
    exact ⟨m, up q⟩
  · intro x c e
    exact un (nC x c e) (I.freeC x c e)
  · intro p hp
    obtain ⟨e, n, r⟩ := I.pin p hp
    exact ⟨e, un (nP p hp) n, r⟩
  · intro b u e
    by_cases hb : b = a
    · subst hb
      rw [upd_same] at e
      cases e
      exact new
    · rw [upd_ne hb] at e
      refine (I.hok b u e).stay (fun _ _ _ q => q) (fun _ q => up q) fun _ _ q => up q
theorem inv_su (I : Inv X pins σ H s) (a : Addr) : Inv (X.suite a (X.pn ++ pins)) [] σ H s := by
  refine ⟨I.ok.suite _ _, I.os, I.bare, I.base, I.loc, I.cell, I.free, I.freeC, ?_, I.hok, I.len⟩
  intro p hp
  rw [List.append_nil] at hp
  exact I.pin p hp
theorem inv_unsu {a : Addr} {pn : List (Addr × Obj)} (I : Inv (X.suite a (X.pn ++ pins)) pn σ H s) (ok : X.Ok) : Inv X pins σ H s := by
  refine ⟨ok, I.os, I.bare, I.base, I.loc, I.cell, I.free, I.freeC, ?_, I.hok, I.len⟩
  intro p hp
  exact I.pin p (List.mem_append_left _ hp)
end
/-- try: body, except c as slot i: suite, what is caught being tracked -/
def wAsV (K : PySem.W.Frag) (c : Value) (i : Nat) (ts : TS) (Wout : WX) (D : Ends) : WX := fun cls d σ H =>
  ∃ b, PySem.W.exmOne K cls c = some b ∧
    (b = true → ∀ a, H a = none → ts ⟨fun σ' => D.nx (σ'.set i none), D.rt, fun σ' => D.bk (σ'.set i none), fun σ' => D.ct (σ'.set i none)⟩ (σ.set i (some (.ref a))) (upd H a (EV cls d a))) ∧
    (b = false → Wout cls d σ H)
def tTryV (K : PySem.W.Frag) (c : Value) (i : Nat) (tb : WX → TS) (ts : TS) (Wout : WX) : TS := fun D => tb (wAsV K c i ts Wout D) D
section
variable {X : Cx} {x n : Str} {c : Value} {i : Nat} {body su : List Stmt} {st : Stmt} {np pos pos' : Pos} {tb : WX → TS} {ts : TS} {Wout : WX}
theorem ps_try_asV (hs : X.stack = X.env :: X.outer) (hf : X.env.frame = some X.env.locals) (hex : X.ex = []) (hN : X.N.Nodup) (hi : X.N[i]? = some n) (hln : X.env.kindOf n = some .local)
    (hc : Names X x c) (tk : Takes X Wout)
    (hb : ∀ W pn xe, Takes (X.tr pn xe) W → PassesOwn (model X.prog X.w) X.A X.env xe → PSs (X.tr pn xe) body (tb W))
    (hsu : ∀ a pn, PSs (X.suite a pn) (st :: su) ts) :
    PS X (.Try body [.ExceptHandler (some (.Name x np)) (some n) (st :: su) pos'] [] [] pos) (tTryV X.K c i tb ts Wout) := by
  constructor
  intro pins s σ H D I h
  have ok := I.ok
  have frm : X.A.frames = some (X.env :: X.outer) := by
    rw [ok.frames, hs]
  apply wpAny_Try_except
  let hh : List ExceptHandler := [.ExceptHandler (some (.Name x np)) (some n) (st :: su) pos']
  let xe1 : Value → Shared → Prop := fun e t0 => wpAny (model X.prog X.w) X.A (noteFrame e X.env)
    (fun _ t1 => wpAny (model X.prog X.w) X.A (setFlight e none)
      (fun _ t2 => wpAny (model X.prog X.w) X.A (handleBy e X.env hh) (SP X pins D) X.xe t2) X.xe t1) X.xe t0
  have takes : Takes (X.tr (X.pn ++ pins) xe1) (wAsV X.K c i ts Wout D) := by
    rintro _ s' ⟨a, B, sI, pins', σ', H', cls, d, rfl, J0, nb, up, sky, na, os, ag, b, hb1, yes, no⟩
    have J : Inv X pins σ' H' sI := J0.ofTry ok
    have sky2 : Sky B (X.env :: X.outer) a (Zc cls d) X.env.locals s'.heap := by
      rw [← hs]
      exact sky
    show wpAny (model X.prog X.w) X.A (noteFrame (.ref a) X.env) _ _ _
    refine Sky.land Zc.steady frm hf sky2 ?_
    intro h3 fl3 up3
    have J3 : Inv X pins σ' H' { s' with heap := h3 } := J.landed nb fl3.1 (up.trans up3) os ag
    obtain ⟨oe3, vs3, g3, z3, d3⟩ := fl3.there
    have noFr : a ∉ frs (X.env :: X.outer) := by
      intro hm
      obtain ⟨_, o', e', hnf⟩ := fl3.2.2.1.mem hm
      rw [g3] at e'
      cases e'
      exact hnf _ d3
    have nL : a ≠ X.env.locals := by
      intro z
      exact noFr (List.mem_filterMap.mpr ⟨X.env, List.mem_cons_self, by rw [hf, z]⟩)
    have nF : a ∉ X.fs := by
      intro hm
      obtain ⟨e, he, q⟩ := List.mem_filterMap.mp hm
      exact noFr (List.mem_filterMap.mpr ⟨e, List.mem_cons_of_mem _ he, q⟩)
    have Ba : B.get? a = none := fl3.2.1
    have noFs : a ∉ frs X.stack := by
      rw [hs]
      exact noFr
    have S3 := J3.suite g3 d3 na nL nF
    refine wpAny_handleBy_cons (codeAny_handlers_test ?_) (by intro q; cases q)
    have LT : PySem.W.Looks (model X.prog X.w) h3 (typeOf (.ref a)) cls := by
      intro A Q E s k q
      exact wpAny_typeOf_ref (k _ _ g3) (by rw [z3.1]; exact q)
    have LM := PySem.W.exm_one (M := model X.prog X.w) (J3.kIn) LT hb1
    have named : ∀ {Q : Value → Shared → Prop} {E : Value → Shared → Prop}, Q c { s' with heap := h3 } →
        wpAny (model X.prog X.w) (X.A.mark (some (.ref a))) (eval (.Name x np) X.env) Q E { s' with heap := h3 } := by
      intro Q E q
      obtain ⟨hg, hdb, hm | ⟨hm, hv, hnn⟩⟩ := hc
      · exact ld_glob (X := X.suite a ((a, oe3) :: (X.pn ++ pins))) S3 hg hm q hdb
      · exact ld_blt (X := X.suite a ((a, oe3) :: (X.pn ++ pins))) S3 hg hm hv q hnn hdb
    apply named
    apply LM.here
    cases b with
    | false =>
      show wpAny _ X.A (handleBy (.ref a) X.env []) _ _ _
      apply wpAny_handleBy_nil
      obtain ⟨_, _, _, oe, vs, T, oT, ts', he, _, hd, h1, _⟩ := id fl3
      have fin : wpAny (model X.prog X.w) X.A (setFlight (.ref a) X.env.frame) (fun _ s4 => wpAny (model X.prog X.w) X.A (throw (.ref a) : Sem Flow) (SP X pins D) X.xe s4) X.xe { s' with heap := h3 } := by
        rw [hf]
        refine HandSPX.setFlight_upZ fl3 fun h4 hh4 up4 => wpAny_throw (tk _ _ ?_)
        refine ⟨a, B, sI, pins, σ', H', cls, d, rfl, J, nb, (up.trans up3).trans up4, ?_, na, os, ag, no rfl⟩
        rw [hs]
        exact .inr (.inr hh4)
      unfold PySem.passOn
      refine wpAny_bind (wpAny_field he hd h1 ?_)
      rw [if_neg (by simp)]
      first
        | exact wpAny_bind (wpAny_pure (wpAny_bind fin))
        | exact wpAny_bind fin
    | true =>
      apply codeAny_handlers_suite_as
      refine HandSPX.lands_againZ fl3 ?_
      intro h4 fl4 up4
      have J4 : Inv X pins σ' H' { s' with heap := h4 } := J.landed nb fl4.1 ((up.trans up3).trans up4) os ag
      obtain ⟨oe4, vs4, g4, z4, d4⟩ := fl4.there
      have n0 : X.s_0.heap.get? a = none := by
        cases e : X.s_0.heap.get? a with
        | none => rfl
        | some o =>
          obtain ⟨o', e'⟩ := J.base.there a o e (by rw [hex]; exact fun z => nomatch z)
          rw [nb a o' e' noFs] at Ba
          cases Ba
      have nC : ∀ x c, X.env.cells.lookup x = some c → c ≠ a := by
        intro y c' e z
        obtain ⟨v, o, ho, hd⟩ := J4.cell y c' e
        rw [z, g4] at ho
        cases ho
        rw [d4] at hd
        cases hd
      have nP : ∀ p ∈ X.pn ++ pins, p.1 ≠ a := by
        intro p hp z
        obtain ⟨e, _, q1, q2, _⟩ := J.pin p hp
        have nf : p.1 ∉ frs X.stack := by
          intro hm
          rw [z] at hm
          exact noFs hm
        have := nb _ _ e nf
        rw [z, Ba] at this
        cases this
      have J5 : Inv X pins σ' (upd H' a (EV cls d a)) { s' with heap := h4 } := inv_track J4 na n0 nL nC nP (ev_ok g4 z4 d4)
      refine store_ok (X := X.suite a (X.pn ++ pins)) (v := .ref a) (inv_su J5 a) hN hi (.inl hln) rfl (fun s5 S5 => ?_) (.inr hln)
      refine wpAny_mono ((hsu a (X.pn ++ pins)).run [] s5 _ _ _ S5 (yes rfl a na)) ?_ (fun _ _ z => False.elim z)
      intro f s6 hsp
      have back : ∀ {σ6 : L2.St} {H6 : Hp} {Q : Shared → Prop}, Inv (X.suite a (X.pn ++ pins)) [] σ6 H6 s6 → (∀ s7, Inv X pins (σ6.set i none) H6 s7 → Q s7) →
          wpAny (model X.prog X.w) X.A (do bindName X.env n .none; unbindBehindTheSuite X.env n pos') (fun _ s7 => Q s7) X.xe s6 := by
        intro σ6 H6 Q S6 hq
        exact gone_ok (inv_unsu S6 ok) hN hi hln hq
      cases f with
      | ret u =>
        obtain ⟨v6, σ6, H6, S6, r6, q6⟩ := hsp
        exact back S6 fun s7 J7 => ⟨_, _, _, J7, r6, q6⟩
      | next => obtain ⟨σ6, H6, S6, q6⟩ := hsp; exact back S6 fun s7 J7 => ⟨_, _, J7, q6⟩
      | brk => obtain ⟨σ6, H6, S6, q6⟩ := hsp; exact back S6 fun s7 J7 => ⟨_, _, J7, q6⟩
      | cont => obtain ⟨σ6, H6, S6, q6⟩ := hsp; exact back S6 fun s7 J7 => ⟨_, _, J7, q6⟩
  have run := (hb (wAsV X.K c i ts Wout D) (X.pn ++ pins) xe1 takes PassesOwn.looking).run [] s σ H D (I.toTry _) h
  refine wpAny_mono run ?_ (fun e s1 he => he)
  intro f s1 hsp
  cases f with
  | ret u =>
    obtain ⟨v, σ', H', J', r, q⟩ := hsp
    exact ⟨v, σ', H', J'.ofTry ok, r, q⟩
  | next =>
    obtain ⟨σ', H', J', q⟩ := hsp
    exact wpAny_execs_nil ⟨σ', H', J'.ofTry ok, q⟩
  | brk => obtain ⟨σ', H', J', q⟩ := hsp; exact ⟨σ', H', J'.ofTry ok, q⟩
  | cont => obtain ⟨σ', H', J', q⟩ := hsp; exact ⟨σ', H', J'.ofTry ok, q⟩
end

/-! ### what is asked of a kept exception -/
theorem ev_inst {P : Program} {w : World} {H : Hp} {h : Heap} {a D : Addr} {d : Option Addr} (hok : HOk P w H h) (he : H a = some (EV (.ref D) d a)) (hd : ∀ dd, d = some dd → ∃ fs, H dd = some (.xd fs)) :
    ∃ oe od, PySem.W.InstAt h a oe D od := by
  obtain ⟨oe, vs, g, z, q⟩ := ev_at hok he
  have no : PySem.W.notCls oe = true := by unfold PySem.W.notCls; rw [q] <;> rfl
  cases d with
  | none => exact ⟨oe, none, g, z.1, no, by rw [z.2]; trivial⟩
  | some dd =>
    obtain ⟨fs, hf⟩ := hd dd rfl
    have hx : ObjOk P w H h dd (.xd fs) := hok dd _ hf
    obtain ⟨mA, hns, hr⟩ := hx
    obtain ⟨od, ho, hl⟩ := lookIn_ns hns
    exact ⟨oe, some od, g, z.1, no, by rw [z.2]; exact ho⟩
def rIsV (K : PySem.W.Frag) : List V → Hp → VK → Prop := fun xs H Q => ∃ (a D : Addr) (d : Option Addr) (c : V) (cv : Value) (b : Bool), xs = [.ref a, c] ∧ H a = some (EV (.ref D) d a) ∧
  (∀ dd, d = some dd → ∃ fs, H dd = some (.xd fs)) ∧ ExcC K D ∧ (∀ u, RelV c u → u = cv) ∧ PySem.W.kitOne K (.ref D) cv = some b ∧ Q (.bl b) H
theorem call_isV {X : Cx} : CallR X (.builtin "isinstance") (rIsV X.K) := by
  intro pins s σ H xs us Q I r h
  obtain ⟨a, D, d, c, cv, b, rfl, ha, hd, C, hcv, e, q⟩ := h
  cases r with
  | cons rx rr =>
  cases rr with
  | cons rt rr =>
  cases rr
  cases rx
  cases hcv _ rt
  obtain ⟨oe, od, J⟩ := ev_inst I.hok ha hd
  obtain ⟨cd, hc, _⟩ := PySem.W.any_some C.hd
  refine PySem.W.kia_one (PySem.W.kitx_exc (by rw [hc]; rfl) C.hg C.hk C.hs C.ha C.hn C.ht C.hm) I.kIn J e (fun z => nomatch z) ?_
  intro tk
  exact ⟨.bl b, H, I.kept (t' := tk) fun _ _ z => z, rfl, q⟩
/-- e.f, e a kept exception -/
def tFldV (K : PySem.W.Frag) (f : Str) (te : TE) : TE := fun σ H Q => te σ H fun x H1 => ∃ (a C dd : Addr) (fs : List (Str × V)) (v : V), x = .ref a ∧ H1 a = some (EV (.ref C) (some dd) a) ∧ H1 dd = some (.xd fs) ∧
  XfC K C ∧ PySem.W.findIn K (.ref C) f = some none ∧ fs.lookup f = some v ∧ Q v H1
theorem pe_fldV {X : Cx} {e : Expr} {te : TE} {pos : Pos} {n : Str} (he : PE X e te) (hb : attributeBase e n X.env (eval e X.env) = eval e X.env := by rfl) : PE X (.Attribute e n pos) (tFldV X.K n te) := by
  constructor
  intro pins s σ H Q I h
  apply attr_of hb
  refine thn (he.run pins s σ H _ I h) ?_
  rintro u s1 ⟨x, H1, I1, rx, a, C, dd, fs, v, rfl, ha, hdd, T, hno, l, q⟩
  obtain rfl : u = Value.ref a := rx
  obtain ⟨oe, vs, g, z, q3⟩ := ev_at I1.hok ha
  have no : PySem.W.notCls oe = true := by unfold PySem.W.notCls; rw [q3] <;> rfl
  have hx : ObjOk X.prog X.w H1 s1.heap dd (.xd fs) := I1.hok dd _ hdd
  obtain ⟨mA, hns, hr⟩ := hx
  obtain ⟨od, ho, hl⟩ := lookIn_ns hns
  have rn := hr n
  rw [l] at rn
  obtain ⟨u, hu, ru⟩ := RelO.some_of rn
  have J : PySem.W.InstAt s1.heap a oe C (some od) := ⟨g, z.1, no, by rw [z.2]; exact ho⟩
  exact HandSPX.exc_get I1.kIn J T.ga T.gg T.exC (PySem.W.findObj_own T.hdC hno rfl (by rw [hl, hu])) (handed_of ru) ⟨v, H1, I1.tok _, ru, q⟩
/-! ### the head's facts, with own ones -/
def kX (n : Nat) (g : Addr → Option Obj) : PySem.W.Frag := He.frG g (sysModules :: He.asD g n)
def sysB (K : PySem.W.Frag) : Bool := (K.lookup sysModules).isSome
def obX (n : Nat) (cs : List (PySem.W.Frag → Bool)) (fa : List He.Fa) (fn : List He.DefD) (g : Addr → Option Obj) : Bool × He.AlD := (cs.all fun c => c (kX n g), He.obsD fa fn (kX n g))
def hookX (n : Nat) (cs : List (PySem.W.Frag → Bool)) (fa : List He.Fa) (fn : List He.DefD) : PySem.W.Hook where
  α := Bool × He.AlD
  obs := fun s => obX n cs fa fn s.heap.get?
  val := fun _ => (true, He.valD fn)
  says := fun _ h => ∃ K : PySem.W.Frag, K.In h ∧ (cs.all fun c => c K) = true ∧ He.SaysD fa fn K
  of := fun _ _ e => ⟨_, He.frG_in, congrArg (fun z : Bool × He.AlD => z.1) e, congrArg (fun z : Bool × He.AlD => z.2) e⟩
  keeps := fun _ _ _ h k => by
    obtain ⟨K, hK, c⟩ := h
    exact ⟨K, PySem.W.Frag.In.keeps hK k, c⟩
theorem obX_eq {n : Nat} {cs : List (PySem.W.Frag → Bool)} {fa : List He.Fa} {fn : List He.DefD} {g : Addr → Option Obj} {s : Shared} (h : ∀ a, g a = s.heap.get? a) : obX n cs fa fn g = (hookX n cs fa fn).obs s := by
  have e : g = s.heap.get? := funext h
  rw [e] <;> rfl
/-! ### calls whose exceptions are caught or let out -/
theorem passE {P : Program} {w : World} {K : PySem.W.Frag} {mg : Str → Option Value} {base : Heap} {N : List Str} {q : Str} {sc : Scope} {f : Addr} {cd : Value} {A : Around} {o : List Env} {s : Shared} {H : Hp} {E : XK} :
    Passes (L2.CX P w) (cxOf (L2.CX P w) P w K mg base N q sc f cd A o s H E) E := passes_call (W := fun cls d _ H => E cls d H) (takes_of rfl rfl rfl rfl) fun _ _ _ _ h => h
section
variable {X : Cx} {C : CXT} {k : Nat} {f : Addr} {fd : FuncData} {ps : List Str} {sp : Sp} {E : L2.St → XK} {x : Str} {p pos : Pos} {e : Expr} {es : List Expr} {t : TA}
theorem run_gS {pins : List (Addr × Obj)} {σ : L2.St} {H : Hp} {s : Shared} {Q : VK} {us : List Value} {vs : List V}
    (F : GOk X.prog X.w X.K X.mg X.base C k f fd ps sp) (hr : Room k X.A) (hc : Clean X.A) (hb : Binds X.K fd ps []) (hx : PassesAt C X σ (E σ))
    (I : Inv X pins σ H s) (r : Vals vs us) (h : sp vs H Q (E σ)) : wpAny (model X.prog X.w) X.A (call (.ref f) us) (EP X pins σ Q) X.xe s := by
  have len : us.length = ps.length := r.length ▸ F.arity _ _ _ _ h
  have b := hb s us I.kIn (by rw [List.append_nil]; exact len)
  rw [List.append_nil] at b
  refine wpAny_call (codeAny_mono (F.go X.A X.stack s H ⟨us, []⟩ us vs Q (E σ) hr hc I.env0 b r h) ?_)
  rintro (er | fl) s' z
  · exact hx pins H s er s' I z
  · cases fl with
    | ret u => exact I.after z
    | _ => exact z.elim
theorem pe_callGS (F : GOk X.prog X.w X.K X.mg X.base C k f fd ps sp) (hr : Room k X.A) (hc : Clean X.A) (hg : Gl X x) (hm : X.mg x = some (.ref f))
    (hk : PySem.W.keepIn X.K (.ref f) = true) (hb : Binds X.K fd ps []) (hx : ∀ σ, PassesAt C X σ (E σ)) (ha : PA X (e :: es) t)
    (hdb : (x == ("__debug__" : Str)) = false := by decide)
    (he : starEach (e :: es) X.env = (false, eval e X.env) :: starEach es X.env := by rfl)
    (hpl : (backTo pos (starEach es X.env)).any (·.1) = false := by rfl) :
    PE X (.Call (.Name x p) (e :: es) [] pos) (tCallS sp E t) := by
  constructor
  intro pins s σ H Q I h
  refine wpAny_Call_Name_kw (ld_glob I hg hm ?_ hdb)
  refine PySem.W.callWith_K (h₀ := X.base) I.ok.mod.kin hk (thn (ha.run pos pins s σ H _ I h) ?_) he hpl
  rintro us s1 ⟨vs, H1, I1, r, q⟩
  exact ⟨I1.kIn, run_gS F hr hc hb (hx σ) I1 r q⟩
end
/-! ### the classes of errors -/
def errN : Nat → Str
  | 0 => "InvalidOperations" | 1 => "InvalidCuts" | 2 => "InvalidText" | 3 => "CannotDo" | 4 => "TooLarge" | 5 => "TooDeep" | 6 => "OverBudget" | 7 => "InvalidLength" | 8 => "InvalidSlots"
  | 9 => "InvalidRounds" | 10 => "InvalidState" | 11 => "InvalidStep" | 12 => "InvalidNumber" | 13 => "InvalidBudget" | 14 => "InvalidCall" | 15 => "Nothing" | 16 => "InvalidCommand" | _ => "SlotError"
abbrev eC (K : PySem.W.Frag) (i : Nat) : Addr := He.ga K (errN i)
def excCB (K : PySem.W.Frag) (D : Addr) : Bool :=
  decide (PySem.W.findIn K (.ref D) "__getattribute__" = some (some (.builtin "BaseException.__getattribute__"))) && (decide (PySem.W.findIn K (.ref D) "__getattr__" = some none) &&
  (decide (PySem.W.subIn K (.ref D) (.type "BaseException") = some true) && (PySem.W.hasDictIn K D && (decide (PySem.W.findIn K (.ref D) "__class__" = some (some (.builtin "object.__class__"))) &&
  (decide (PySem.W.specialIn K (.builtin "object.__class__") "__get__" = some (some (.builtin "getset_descriptor.__get__"))) && (decide (PySem.W.takesIn K (.builtin "object.__class__") = some true) &&
  decide (PySem.W.mroIn K D (.type "object") = some true)))))))
theorem excCB_ok {K : PySem.W.Frag} {D : Addr} (h : excCB K D = true) : ExcC K D := by
  simp only [excCB, Bool.and_eq_true, decide_eq_true_eq] at h
  obtain ⟨h1, h2, h3, h4, h5, h6, h7, h8⟩ := h
  exact ⟨h1, h2, h3, h4, h5, h6, h7, h8⟩
/-- of one class of errors -/
def errB (K : PySem.W.Frag) (i : Nat) : Bool :=
  decide (PySem.W.nsIn K mainGlobals (errN i) = some (some (.ref (eC K i)))) && PySem.W.keepIn K (.ref (eC K i)) && decide (PySem.W.typeIn K (.ref (eC K i)) = some (.type "type")) && excCB K (eC K i) &&
  decide (PySem.W.kitOne K (.ref (eC K i)) (.type "ValueError") = some true) && decide (PySem.W.exmOne K (.ref (eC K i)) (.ref (eC K 17)) = some true) && decide (PySem.W.kitOne K (.ref (eC K i)) (.ref (eC K 17)) = some true) &&
  decide (i < 7 ∨ PySem.W.excIn K (eC K i) He.veBase "ValueError.__new__" = true)
def errsB (K : PySem.W.Frag) : Bool := (List.range 18).all (errB K) && (List.range 18).all fun i => (List.range 17).all fun j => decide (PySem.W.kitOne K (.ref (eC K i)) (.ref (eC K j)) = some (i == j))
structure Errs (K : PySem.W.Frag) (mg : Str → Option Value) : Prop where
  gl : ∀ i, i < 18 → mg (errN i) = some (.ref (eC K i))
  kp : ∀ i, i < 18 → PySem.W.keepIn K (.ref (eC K i)) = true
  ty : ∀ i, i < 18 → PySem.W.typeIn K (.ref (eC K i)) = some (.type "type")
  xc : ∀ i, i < 18 → ExcC K (eC K i)
  kitV : ∀ i, i < 18 → PySem.W.kitOne K (.ref (eC K i)) (.type "ValueError") = some true
  exm : ∀ i, i < 18 → PySem.W.exmOne K (.ref (eC K i)) (.ref (eC K 17)) = some true
  kitS : ∀ i, i < 18 → PySem.W.kitOne K (.ref (eC K i)) (.ref (eC K 17)) = some true
  tx : ∀ i, i < 18 → 7 ≤ i → PySem.W.excIn K (eC K i) He.veBase "ValueError.__new__" = true
  kit : ∀ i j, i < 18 → j < 17 → PySem.W.kitOne K (.ref (eC K i)) (.ref (eC K j)) = some (i == j)
theorem errs_ok {K : PySem.W.Frag} {h : Heap} {mg : Str → Option Value} (X : K.In h) (G : h.Ns mainGlobals mg) (c : errsB K = true) : Errs K mg := by
  obtain ⟨c1, c2⟩ := Bool.and_eq_true_iff.mp c
  have one : ∀ i, i < 18 → errB K i = true := fun i hi => List.all_eq_true.mp c1 i (List.mem_range.mpr hi)
  have two : ∀ i j, i < 18 → j < 17 → PySem.W.kitOne K (.ref (eC K i)) (.ref (eC K j)) = some (i == j) := fun i j hi hj =>
    of_decide_eq_true (List.all_eq_true.mp (List.all_eq_true.mp c2 i (List.mem_range.mpr hi)) j (List.mem_range.mpr hj))
  have all : ∀ i, i < 18 → PySem.W.nsIn K mainGlobals (errN i) = some (some (.ref (eC K i))) ∧ PySem.W.keepIn K (.ref (eC K i)) = true ∧ PySem.W.typeIn K (.ref (eC K i)) = some (.type "type") ∧ excCB K (eC K i) = true ∧
      PySem.W.kitOne K (.ref (eC K i)) (.type "ValueError") = some true ∧ PySem.W.exmOne K (.ref (eC K i)) (.ref (eC K 17)) = some true ∧ PySem.W.kitOne K (.ref (eC K i)) (.ref (eC K 17)) = some true ∧
      (i < 7 ∨ PySem.W.excIn K (eC K i) He.veBase "ValueError.__new__" = true) := fun i hi => by
    have := one i hi
    simpa only [errB, Bool.and_eq_true, decide_eq_true_eq, and_assoc] using this
  exact ⟨fun i hi => PySem.W.mg_of X G (all i hi).1, fun i hi => (all i hi).2.1, fun i hi => (all i hi).2.2.1, fun i hi => excCB_ok (all i hi).2.2.2.1, fun i hi => (all i hi).2.2.2.2.1, fun i hi => (all i hi).2.2.2.2.2.1,
    fun i hi => (all i hi).2.2.2.2.2.2.1, fun i hi h7 => (all i hi).2.2.2.2.2.2.2.resolve_left (by omega), two⟩
/-- for laws that hold some of the classes alone -/
structure ErrI (K : PySem.W.Frag) (mg : Str → Option Value) (I : List Nat) : Prop where
  gl : ∀ i, i ∈ I → mg (errN i) = some (.ref (eC K i))
  kp : ∀ i, i ∈ I → PySem.W.keepIn K (.ref (eC K i)) = true
  ty : ∀ i, i ∈ I → PySem.W.typeIn K (.ref (eC K i)) = some (.type "type")
  xc : ∀ i, i ∈ I → ExcC K (eC K i)
  exm : ∀ i j, i ∈ I → j ∈ I → PySem.W.exmOne K (.ref (eC K i)) (.ref (eC K j)) = some (i == j || j == 17)
  tx : ∀ i, i ∈ I → 7 ≤ i → PySem.W.excIn K (eC K i) He.veBase "ValueError.__new__" = true
def errIB (I : List Nat) (K : PySem.W.Frag) : Bool := I.all (errB K) && I.all fun i => I.all fun j => decide (PySem.W.exmOne K (.ref (eC K i)) (.ref (eC K j)) = some (i == j || j == 17))
theorem errI_ok {K : PySem.W.Frag} {h : Heap} {mg : Str → Option Value} {I : List Nat} (X : K.In h) (G : h.Ns mainGlobals mg) (c : errIB I K = true) : ErrI K mg I := by
  obtain ⟨c1, c2⟩ := Bool.and_eq_true_iff.mp c
  have all : ∀ i, i ∈ I → PySem.W.nsIn K mainGlobals (errN i) = some (some (.ref (eC K i))) ∧ PySem.W.keepIn K (.ref (eC K i)) = true ∧ PySem.W.typeIn K (.ref (eC K i)) = some (.type "type") ∧ excCB K (eC K i) = true ∧
      PySem.W.kitOne K (.ref (eC K i)) (.type "ValueError") = some true ∧ PySem.W.exmOne K (.ref (eC K i)) (.ref (eC K 17)) = some true ∧ PySem.W.kitOne K (.ref (eC K i)) (.ref (eC K 17)) = some true ∧
      (i < 7 ∨ PySem.W.excIn K (eC K i) He.veBase "ValueError.__new__" = true) := fun i hi => by
    have := List.all_eq_true.mp c1 i hi
    simpa only [errB, Bool.and_eq_true, decide_eq_true_eq, and_assoc] using this
  exact ⟨fun i hi => PySem.W.mg_of X G (all i hi).1, fun i hi => (all i hi).2.1, fun i hi => (all i hi).2.2.1, fun i hi => excCB_ok (all i hi).2.2.2.1,
    fun i j hi hj => of_decide_eq_true (List.all_eq_true.mp (List.all_eq_true.mp c2 i hi) j hj), fun i hi h7 => (all i hi).2.2.2.2.2.2.2.resolve_left (by omega)⟩
theorem isV {K : PySem.W.Frag} {mg : Str → Option Value} (er : Errs K mg) {H : Hp} {a : Addr} {d : Option Addr} {i : Nat} (j : Nat) {Q : VK} (ha : H a = some (EV (.ref (eC K i)) d a)) (hd : ∀ dd, d = some dd → ∃ fs, H dd = some (.xd fs))
    (hi : i < 18) (hj : j < 17) (q : Q (.bl (i == j)) H) : rIsV K [.ref a, .ref (eC K j)] H Q :=
  ⟨a, _, d, _, _, _, rfl, ha, hd, er.xc i hi, fun u r => r, er.kit i j hi hj, q⟩
theorem isVE {K : PySem.W.Frag} {mg : Str → Option Value} (er : Errs K mg) {H : Hp} {a : Addr} {d : Option Addr} {i : Nat} {Q : VK} (ha : H a = some (EV (.ref (eC K i)) d a)) (hd : ∀ dd, d = some dd → ∃ fs, H dd = some (.xd fs))
    (hi : i < 18) (q : Q (.bl true) H) : rIsV K [.ref a, .ty "ValueError"] H Q :=
  ⟨a, _, d, _, _, _, rfl, ha, hd, er.xc i hi, fun u r => r, er.kitV i hi, q⟩
/-! ### data with empty dicts -/
def flat : PyData → Bool
  | .list _ => false
  | .tuple _ => false
  | .dict _ => false
  | _ => true
mutual
inductive Df (K : PySem.W.Frag) (H : Hp) : V → PyData → Prop where
  | dp {v : V} {d : PyData} : flat d = true → Dp K H v d → Df K H v d
  | lst {a : Addr} {xs : List V} {ds : List PyData} : H a = some (.lst xs) → DfAll K H xs ds → Df K H (.ref a) (.list ds)
  | tup {a : Addr} {xs : List V} {ds : List PyData} : H a = some (.tup xs) → DfAll K H xs ds → Df K H (.ref a) (.tuple ds)
  | dct {a : Addr} : H a = some (.dK []) → Df K H (.ref a) (.dict [])
inductive DfAll (K : PySem.W.Frag) (H : Hp) : List V → List PyData → Prop where
  | nil : DfAll K H [] []
  | cons {v : V} {vs : List V} {d : PyData} {ds : List PyData} : Df K H v d → DfAll K H vs ds → DfAll K H (v :: vs) (d :: ds)
end

section
variable {K : PySem.W.Frag} {H H' : Hp}
theorem df_ex (e : Ex H H') : ∀ (d : PyData) (v : V), Df K H v d → Df K H' v d
  | .list ds, _, h => by
    cases h with
    | dp f h => cases f
    | lst h a => exact .lst (e _ _ h) (go ds _ a)
  | .tuple ds, _, h => by
    cases h with
    | dp f h => cases f
    | tup h a => exact .tup (e _ _ h) (go ds _ a)
  | .dict kvs, _, h => by
    cases h with
    | dp f h => cases f
    | dct h => exact .dct (e _ _ h)
  | .none, _, h => by cases h with | dp f h => exact .dp f (dp_ex e _ _ h)
  | .bool _, _, h => by cases h with | dp f h => exact .dp f (dp_ex e _ _ h)
  | .int _, _, h => by cases h with | dp f h => exact .dp f (dp_ex e _ _ h)
  | .str _, _, h => by cases h with | dp f h => exact .dp f (dp_ex e _ _ h)
where go : ∀ (ds : List PyData) (vs : List V), DfAll K H vs ds → DfAll K H' vs ds
  | [], _, h => by cases h; exact .nil
  | d :: ds, _, h => by cases h with | cons h r => exact .cons (df_ex e d _ h) (go ds _ r)
end
section
variable {X : Cx} {pins : List (Addr × Obj)} {σ : L2.St} {H : Hp} {s : Shared}
theorem tr_ne {a : Addr} {o : HO} (I : Inv X pins σ H s) (sy : (X.K.lookup sysModules).isSome = true) (e : H a = some o) : sysModules ≠ a := fun z => by
  obtain ⟨o', ho⟩ := Option.isSome_iff_exists.mp sy
  have := (I.bs _ _ (I.ok.mod.kin _ _ ho)).2
  rw [z, e] at this
  cases this
theorem df_reads (I : Inv X pins σ H s) (sy : (X.K.lookup sysModules).isSome = true) : ∀ (d : PyData) (v : V) (u : Value), Df X.K H v d → RelV v u → ∃ as, Reads s.heap u d as ∧ sysModules ∉ as
  | .list ds, _, _, h, r => by
    cases h with
    | dp f h => cases f
    | lst h a =>
      cases r
      obtain ⟨_, its, n, rv, h1⟩ := (show ObjOk X.prog X.w H s.heap _ (.lst _) from I.hok _ _ h)
      obtain ⟨as, ra, na⟩ := go ds _ its a rv
      exact ⟨_, Reads.list h1 rfl rfl (by simpa using ra), fun z => (List.mem_cons.mp z).elim (tr_ne I sy h) na⟩
  | .tuple ds, _, _, h, r => by
    cases h with
    | dp f h => cases f
    | tup h a =>
      cases r
      obtain ⟨_, its, rv, o, h1, h2, n, h3⟩ := (show ObjOk X.prog X.w H s.heap _ (.tup _) from I.hok _ _ h)
      obtain ⟨as, ra, na⟩ := go ds _ its a rv
      exact ⟨_, Reads.tuple h1 h2 h3 (by simpa using ra), na⟩
  | .dict kvs, _, _, h, r => by
    cases h with
    | dp f h => cases f
    | dct h =>
      cases r
      obtain ⟨_, _, vs, kv, o, es, ep, h1, h2, h3, _, pr, _⟩ := (show ObjOk X.prog X.w H s.heap _ (.dK []) from I.hok _ _ h)
      cases kv
      have e0 : es.toList = [] := by
        cases hh : es.toList with
        | nil => rfl
        | cons x y => rw [hh] at pr; cases pr
      exact ⟨_, Reads.dict (as := []) (bs := []) h1 h2.1 h3 (by rw [e0]; exact .nil) (by rw [e0]; exact .nil), fun z => (List.mem_cons.mp z).elim (tr_ne I sy h) (fun z => nomatch z)⟩
  | .none, _, _, h, r => by cases h with | dp f h => cases h; cases r; exact ⟨_, Reads.none, fun z => nomatch z⟩
  | .bool b, _, _, h, r => by cases h with | dp f h => cases h; cases r; exact ⟨_, Reads.bool b, fun z => nomatch z⟩
  | .int i, _, _, h, r => by cases h with | dp f h => cases h; obtain ⟨t, rfl⟩ := r; exact ⟨_, Reads.int i t, fun z => nomatch z⟩
  | .str x, _, _, h, r => by cases h with | dp f h => cases h; obtain ⟨t, rfl⟩ := r; exact ⟨_, Reads.str x t, fun z => nomatch z⟩
where go : ∀ (ds : List PyData) (vs : List V) (us : List Value), DfAll X.K H vs ds → Vals vs us → ∃ as, ReadsAll s.heap us ds as ∧ sysModules ∉ as
  | [], _, _, h, r => by cases h; cases r; exact ⟨_, .nil, fun z => nomatch z⟩
  | d :: ds, _, _, h, r => by
    cases h with
    | cons h1 h2 =>
    cases r with
    | cons r1 r2 =>
    obtain ⟨as, q1, n1⟩ := df_reads I sy d _ _ h1 r1
    obtain ⟨bs, q2, n2⟩ := go ds _ _ h2 r2
    exact ⟨_, .cons q1 q2, fun z => (List.mem_append.mp z).elim n1 n2⟩
end
/-- a text of at most m signs, at most k deep -/
def Good (k m : Nat) (d : PyData) : Prop := d.showable = true ∧ d.depth ≤ k ∧ d.shown.length ≤ m
theorem good_fine {n : Nat} {d : PyData} (h : fine n d = true) : Good n (sz d) d := by
  obtain ⟨h1, _, h3, h4⟩ := fine_ok d n h
  exact ⟨h1, h3, h4⟩
theorem good_dict {k : Nat} : Good (k + 1) 2 (.dict []) := ⟨by decide +kernel, Nat.le_trans (by decide +kernel : (PyData.dict []).depth ≤ 1) (by omega), by decide +kernel⟩
/-- repr of a new list -/
def rReprF (K : PySem.W.Frag) : List V → Hp → VK → Prop := fun xs H Q => ∃ a ds, xs = [.ref a] ∧ Df K H (.ref a) (.list ds) ∧ Good 20 16000000 (.list ds) ∧ Q (.str (PyData.shown (.list ds))) H
theorem call_repr_F {X : Cx} {k : Nat} (hr : Room k X.A) (hc : Clean X.A) (sy : (X.K.lookup sysModules).isSome = true) : CallR X (.builtin "repr") (rReprF X.K) := by
  intro pins s σ H xs us Q I r h
  obtain ⟨a, ds, rfl, hd, ⟨g1, g2, g3⟩, q⟩ := h
  cases r with
  | cons r0 r1 =>
  cases r1
  obtain ⟨as, rd, na⟩ := df_reads I sy _ _ _ hd r0
  cases r0
  have hu := hr.units
  exact repr_of_reads' rd g1 (fun _ => na) hc (by omega) (fun _ _ z => z) (fun h' u tk kk => ⟨.str _, H, I.kept kk, ⟨_, rfl⟩, q⟩) (by rw [sizeLine_eq]; omega)
theorem good_list {k m : Nat} {ds : List PyData} (h : ∀ d ∈ ds, Good k m d) : Good (k + 1) ((m + 2) * ds.length + 3) (.list ds) := by
  have one : ∀ ds : List PyData, (∀ d ∈ ds, Good k m d) → PyData.showableAll ds = true ∧ PyData.depthAll ds ≤ k ∧ ((PyData.shownAll ds).map (·.length)).sum + 2 * (PyData.shownAll ds).length ≤ (m + 2) * ds.length := by
    intro ds
    induction ds with
    | nil => intro _; exact ⟨rfl, by show 0 ≤ k; omega, by simp [PyData.shownAll]⟩
    | cons d ds ih =>
      intro h
      obtain ⟨a1, a2, a3⟩ := h d (List.mem_cons_self ..)
      obtain ⟨b1, b2, b3⟩ := ih fun d hd => h d (List.mem_cons_of_mem _ hd)
      refine ⟨by simp only [PyData.showableAll, a1, b1, Bool.and_self], by simp only [PyData.depthAll]; omega, ?_⟩
      simp only [PyData.shownAll, List.map_cons, List.sum_cons, List.length_cons]
      rw [show (m + 2) * (ds.length + 1) = (m + 2) * ds.length + (m + 2) by rw [Nat.mul_add, Nat.mul_one]]
      omega
  obtain ⟨c1, c2, c3⟩ := one ds h
  refine ⟨by simpa only [PyData.showable] using c1, by simp only [PyData.depth]; omega, ?_⟩
  have := listText_len_le (PyData.shownAll ds)
  simp only [PyData.shown]
  omega
/-! ### classes of errors with an argument -/
def oexB (K : PySem.W.Frag) (C : Addr) : Bool := match K.lookup C with
  | some ⟨.type "type", _, .cls cd, sl⟩ => (match cd.mro, sl.toList with
    | .ref C' :: bm, [_, _, _, _, some (.builtin n), _] => C' == C && n == "ValueError.__new__" && !cd.hasDel && cd.hasDict && PySem.HandSPX.refsVE bm
    | _, _ => false)
  | _ => false
theorem oexB_ok {K : PySem.W.Frag} {C : Addr} (q : oexB K C = true) : ∃ nm q N bs bm sn sub ab col dd k0 k1 k2 k3 k5, K.lookup C = some (excClassObj nm q C N bs bm true sn sub ab col dd k0 k1 k2 k3 k5 "ValueError.__new__") ∧ PySem.HandSPX.refsVE bm = true := by
  unfold oexB at q
  split at q
  · rename_i dd cd sl ho
    split at q
    · rename_i C' bm k0 k1 k2 k3 n k5 hm hs
      simp only [Bool.and_eq_true, beq_iff_eq, Bool.not_eq_true'] at q
      obtain ⟨⟨⟨⟨rfl, rfl⟩, hdel⟩, hdc⟩, hr⟩ := q
      obtain ⟨nm, bs, mro, ns, qn, hd, sn, sub, ab, col, del⟩ := cd
      dsimp only at hm hdel hdc
      subst hm hdel hdc
      have hsl : sl = #[k0, k1, k2, k3, some (.builtin "ValueError.__new__"), k5] := by
        obtain ⟨l⟩ := sl
        simp only at hs
        rw [hs]
      subst hsl
      exact ⟨nm, qn, ns, bs, bm, sn, sub, ab, col, dd, k0, k1, k2, k3, k5, ho, hr⟩
    · cases q
  · cases q
/-- of a class whose __init__, at fI, keeps its argument in the field f -/
structure InitF (K : PySem.W.Frag) (C fI : Addr) (f : Str) : Prop where
  ox : OexC K C
  no : PySem.W.findIn K (.ref C) f = some none
  ini : PySem.W.findIn K (.ref C) "__init__" = some (some (.ref fI))
  ty : PySem.W.typeIn K (.ref fI) = some (.type "function")
def initB (K : PySem.W.Frag) (i : Nat) (f : Str) : Bool :=
  oexB K (eC K i) && decide (PySem.W.findIn K (.ref (eC K i)) "__setattr__" = some (some (.builtin "object.__setattr__"))) && decide (PySem.W.subIn K (.ref (eC K i)) (.type "BaseException") = some true) &&
  decide (PySem.W.typeIn K (.ref (eC K i)) = some (.type "type")) && PySem.W.keepIn K (.ref (eC K i)) && decide (PySem.W.findIn K (.ref (eC K i)) f = some none) &&
  decide (PySem.W.findIn K (.ref (eC K i)) "__init__" = some (some (.ref (He.ma K (eC K i) "__init__")))) && decide (PySem.W.typeIn K (.ref (He.ma K (eC K i) "__init__")) = some (.type "function"))
theorem initB_ok {K : PySem.W.Frag} {i : Nat} {f : Str} (h : initB K i f = true) : InitF K (eC K i) (He.ma K (eC K i) "__init__") f := by
  simp only [initB, Bool.and_eq_true, decide_eq_true_eq, and_assoc] at h
  obtain ⟨h1, h2, h3, h4, h5, h6, h7, h8⟩ := h
  exact ⟨⟨oexB_ok h1, h2, h3, h4, h5⟩, h6, h7, h8⟩
/-- what such an __init__ promises -/
def spIn (K : PySem.W.Frag) (f : Str) : Sp := fun vs H Q _ => ∃ (a C : Addr) (v : V), vs = [.ref a, v] ∧ OexC K C ∧ PySem.W.findIn K (.ref C) f = some none ∧ H a = some (exo a C none) ∧
  ∀ dx, H dx = none → dx ≠ a → Q .non (upd (upd H dx (exd dx [(f, v)])) a (exo a C (some dx)))
theorem spIn_len {K : PySem.W.Frag} {f : Str} {n : List Str} (hn : n.length = 2) : ∀ vs H Q E, spIn K f vs H Q E → vs.length = n.length := by
  rintro vs H Q E ⟨a, C, v, rfl, _⟩
  exact hn.symm
/-- C(e), the field f holding e -/
def tMkI (C : Addr) (f : Str) (ta : TA) : L2.St → Hp → XK → Prop := fun σ H Q => ta σ H fun vs H1 => ∃ v, vs = [v] ∧ ∀ d, H1 d = none → Q (.ref C) (some d) (upd H1 d (.xd [(f, v)]))
section
variable {X : Cx} {C fI : Addr} {f x : Str} {k : Nat} {fd : FuncData} {n : List Str} {e : Expr} {ta : TA} {p pos : Pos}
theorem pmk_init {ps : List Str} (T : InitF X.K C fI f) (F1 : FnOk X.prog X.w X.K X.mg X.base (L2.CX X.prog X.w) k fI fd ps (spIn X.K f)) (hr : Room (k + 1) X.A) (hb : Binds X.K fd ps []) (hg : Gl X x) (hm : X.mg x = some (.ref C)) (ha : PA X [e] ta)
    (hdb : (x == ("__debug__" : Str)) = false := by decide) (he : starEach [e] X.env = (false, eval e X.env) :: starEach [] X.env := by rfl) :
    PMk X (.Call (.Name x p) [e] [] pos) (tMkI C f ta) := by
  intro pins s σ H Q I h
  have ha2 : PA X [e] (fun σ H R => ∃ R', ta σ H R' ∧ ∀ vs H1, R' vs H1 → R vs H1) := by
    constructor
    rintro pos pins s σ H R I ⟨R', h, i⟩
    refine wpAny_mono (ha.run pos pins s σ H R' I h) ?_ (fun _ _ x => x)
    rintro us s1 ⟨vs, H1, I1, r, q⟩
    exact ⟨vs, H1, I1, r, i _ _ q⟩
  have gen := pmk_oex (p := p) (pos := pos) (CX := L2.CX X.prog X.w) T.ox T.ini T.ty F1 hr hb .nil (passL (X := X)) hg hm ha2 hdb he (by rfl)
  refine gen pins s σ H Q I ⟨_, h, ?_⟩
  rintro vs H1 ⟨v, rfl, q⟩
  refine ⟨by show 1 ≤ 1000; decide, fun a na => ⟨a, C, v, rfl, T.ox, T.no, upd_same, fun dx hdx hne => ⟨rfl, dx, [(f, v)], upd_same, by rw [upd_ne hne, upd_same], ?_, ?_⟩⟩⟩
  · rw [upd_ne hne] at hdx
    exact hdx
  · rw [upd_ne hne] at hdx
    have e2 : upd (del (upd (upd (upd H1 a (exo a C none)) dx (exd dx [(f, v)])) a (exo a C (some dx))) a) dx (HO.xd [(f, v)]) = upd H1 dx (.xd [(f, v)]) := by
      funext b
      by_cases h1 : b = dx
      · rw [h1, upd_same, upd_same]
      · rw [upd_ne h1, upd_ne h1]
        by_cases h2 : b = a
        · rw [h2, del_same, na]
        · rw [del_ne h2, upd_ne h2, upd_ne h1, upd_ne h2]
    rw [e2]
    exact q dx hdx
/-- an error that is made and kept -/
def tMkV (tm : L2.St → Hp → XK → Prop) : TE := fun σ H Q => tm σ H fun cls d H1 => ∀ a, H1 a = none → Q (.ref a) (upd H1 a (EV cls d a))
theorem pe_mkV {e : Expr} {tm : L2.St → Hp → XK → Prop} (he : PMk X e tm) : PE X e (tMkV tm) := by
  constructor
  intro pins s σ H Q I h
  refine thn (he pins s σ H _ I h) ?_
  rintro u s1 ⟨a, oe, vs, sI, H1, cls, d, rfl, J, k, hne, ha, hz, hd, _, na, os, ag, _, q⟩
  refine ⟨.ref a, upd H1 a (EV cls d a), ?_, rfl, q a na⟩
  obtain ⟨hp, g, dr, tk, os'⟩ := s1
  obtain ⟨hp0, g0, dr0, tk0, os0⟩ := sI
  exact J.call' (ch := []) os (Un.laidN k hne na) (J.hok.laidN k na (ev_ok ha hz hd)) ag (fun b z => absurd z (by simp))
end

/-- list + list, each tracked or written -/
def rCatQ (K : PySem.W.Frag) : R2 := fun x y H Q => ∃ l b xs zs, x = .ref l ∧ y = .ref b ∧ SqL K H l xs ∧ SqL K H b zs ∧ xs.length + zs.length ≤ sizeLine ∧ ∀ p, H p = none → Q (.ref p) (upd H p (.lst (xs ++ zs)))
theorem op_catQ {X : Cx} : OpR X (binaryOp .Add) (rCatQ X.K) := by
  intro pins s σ H x y v u Q I rx ry h
  obtain ⟨l, b, xs, zs, rfl, rfl, hH, hB, hz, q⟩ := h
  cases rx
  cases ry
  obtain ⟨its, r, ⟨⟨cls, dd, data, sl⟩, n, ho, hc, _, hd⟩, z⟩ := I.list hH
  obtain ⟨its2, r2, ⟨⟨cls2, dd2, data2, sl2⟩, n2, ho2, hc2, _, hd2⟩, z2⟩ := I.list hB
  simp only at hc hd hc2 hd2
  subst hc hd hc2 hd2
  have l1 := r.length
  have l2 := r2.length
  have ea : its.toArray ++ its2.toArray = (its ++ its2).toArray := by simp
  refine concat_meets ⟨_, ho, rfl⟩ ⟨_, ho2, rfl⟩ noFill_list_add seq_list_add PySem.F.slot_list_add PySem.F.entry_list_add (PySem.F.args_list_add_2 _ _) (list_addW l b its.toArray its2.toArray n n2 dd dd2 sl sl2 (by rw [List.size_toArray, List.size_toArray]; omega)) ⟨ho, ho2, ?_⟩
  rw [ea]
  exact ⟨.ref _, _, I.lnew (t' := s.toks) (r.append r2) (by rw [List.length_append]; omega), rfl, q _ I.fresh⟩
theorem isVS {K : PySem.W.Frag} {mg : Str → Option Value} (er : Errs K mg) {H : Hp} {a : Addr} {d : Option Addr} {i : Nat} {Q : VK} (ha : H a = some (EV (.ref (eC K i)) d a)) (hd : ∀ dd, d = some dd → ∃ fs, H dd = some (.xd fs))
    (hi : i < 18) (q : Q (.bl true) H) : rIsV K [.ref a, .ref (eC K 17)] H Q :=
  ⟨a, _, d, _, _, _, rfl, ha, hd, er.xc i hi, fun u r => r, er.kitS i hi, q⟩
theorem xf_of {K : PySem.W.Frag} {C : Addr} (h : ExcC K C) : XfC K C := ⟨h.hg, h.hk, h.hs, h.hd⟩

/-! loops over enumerate, zip -/
section
variable {K : PySem.W.Frag} {σ : L2.St} {H : Hp} {ta : TA} {tb : TS} {g : TG} {D : Ends} {a b : Addr} {xs ys : List V}
def ForJ (J : It) (g : TG) (tb : TS) (D : Ends) (σ : L2.St) (H1 : Hp) : Prop := ∃ W : Nat → Nat → L2.St → Hp → Prop, (∃ m, W 0 m σ H1) ∧ ∀ i m σ H, W i m σ H →
  (J.stop i H ∧ D.nx σ H) ∨ (J.go i H ∧ ∃ N : L2.St → Hp → Prop, (∀ σ' H', N σ' H' → ∃ m', m' < m ∧ W (i + 1) m' σ' H') ∧ ∀ x H', J.yld i H x H' → g x σ H' fun σ2 H2 => tb { D with nx := N, ct := N, bk := D.nx } σ2 H2)
theorem tFor_enum : tFor (iEnum K ta) g tb D σ H = ta σ H fun us H1 => ∃ a xs, us = [.ref a] ∧ SqL K H1 a xs ∧ ForJ (Ite K a) g tb D σ H1 := rfl
theorem forE_in (Pv : Nat → L2.St → Hp → Prop) (h0 : Pv 0 σ H) (hl : ∀ i σ' H', i ≤ xs.length → Pv i σ' H' → SqL K H' a xs) (hd : ∀ σ H, Pv xs.length σ H → D.nx σ H)
    (hs : ∀ (i : Nat) x T σ H, xs[i]? = some x → Pv i σ H → H T = none → g (.ref T) σ (upd H T (.tup [.int (i : Nat), x])) fun σ2 H2 => tb { D with nx := Pv (i + 1), ct := Pv (i + 1), bk := D.nx } σ2 H2) : ForJ (Ite K a) g tb D σ H := by
  refine for_it walk_enum Pv h0 hl ?_ hd
  rintro i x σ H H' hi p ⟨T, x1, y1, rfl, hT, rfl, h1, h2⟩
  cases h1
  exact hs i y1 T σ H h2 p hT
end
end Bs

namespace Bs
open PySem PySem.Spec PyProof.Rows L2
open Evl (Ex)
/-! ### match over words -/
def PCase (X : Cx) (cs : List MatchCase) (t : Str → TS) : Prop := ∀ (first : Bool) (pins : List (Addr × Obj)) (s : Shared) (σ : L2.St) (H : Hp) (D : Ends) (z : Str) (v : Value), Inv X pins σ H s → RelV (.str z) v → t z D σ H →
  wpAny (model X.prog X.w) X.A (matchCases cs X.env v first) (SP X pins D) X.xe s
def tCase (w : Str) (a : TS) (b : Str → TS) : Str → TS := fun z D σ H => if z = w then a D σ H else b z D σ H
def tMatch (te : TE) (t : Str → TS) : TS := fun D σ H => te σ H fun x H1 => ∃ z, x = .str z ∧ t z D σ H1
section
variable {X : Cx} {body : List Stmt} {rest : List MatchCase} {tb : TS} {t : Str → TS} {w : Str} {j : Nat} {p pos : Pos} {e : Expr} {te : TE} {cs : List MatchCase}
theorem pc_nil : PCase X [] fun _ D σ H => D.nx σ H := by
  intro first pins s σ H D z v I r h
  exact wpAny_matchCases_nil ⟨σ, H, I, h⟩
theorem pc_any (hb : PSs X body tb) : PCase X [⟨.MatchAs none none pos, none, body⟩] fun _ => tb := by
  intro first pins s σ H D z v I r h
  refine wpAny_matchCases_cons (wpAny_matchPattern_Capture ?_)
  show wpAny _ _ (assignInOrder [] []) _ _ _
  exact wpAny_pure (hb.run pins s σ H D I h)
theorem pc_word (hb : PSs X body tb) (hr : PCase X rest t) : PCase X (⟨.MatchValue (.Constant (.str w) j p) pos, none, body⟩ :: rest) (tCase w tb t) := by
  intro first pins s σ H D z v I r h
  refine wpAny_matchCases_cons (wpAny_matchPattern_Value ?_)
  have one := (pe_str (X := X) (x := w) (j := j) (pos := p)).run pins s σ H (fun y H1 => y = .str w ∧ H1 = H) I ⟨rfl, rfl⟩
  refine wpAny_mono one ?_ (fun _ _ x => x)
  rintro u s1 ⟨y, H1, I1, r1, rfl, rfl⟩
  have two := op_eq pins s1 σ H1 (.str z) (.str w) v u (fun y H2 => y = .bl (decide (z = w)) ∧ H2 = H1) I1 r r1 ⟨rfl, by simp⟩
  refine wpAny_mono two ?_ (fun _ _ x => x)
  rintro c s2 ⟨y, H2, I2, r2, rfl, rfl⟩
  cases r2
  refine wpAny_truthy_bool ?_
  unfold tCase at h
  by_cases hz : z = w
  · rw [if_pos hz] at h
    rw [decide_eq_true hz]
    show wpAny _ _ (assignInOrder [] []) _ _ _
    exact wpAny_pure (hb.run pins s2 σ H2 D I2 h)
  · rw [if_neg hz] at h
    rw [decide_eq_false hz]
    exact hr false pins s2 σ H2 D z v I2 r h
theorem ps_match (he : PE X e te) (hc : PCase X cs t) : PS X (.Match e cs pos) (tMatch te t) := by
  constructor
  intro pins s σ H D I h
  apply wpAny_Match
  refine wpAny_mono (he.run pins s σ H _ I h) ?_ (fun _ _ x => x)
  rintro v s1 ⟨y, H1, I1, r, z, rfl, q⟩
  exact hc true pins s1 σ H1 D z v I1 r q
end
/-! ### defs of properties -/
def gA (K : PySem.W.Frag) (c f : Str) : Addr := match PySem.W.recIn K (He.ma K (He.ga K c) f) "property" with
  | some (.ref g :: _) => g
  | _ => 0
def fnA (K : PySem.W.Frag) (a : Addr) : He.FnW := match K.lookup a with
  | some ⟨_, _, .func fd, _⟩ => some (fd.name, fd.qualname, fd.params, fd.body, fd.scope, fd.globals, fd.closure, fd.builtins)
  | _ => none
def okA (K : PySem.W.Frag) (a : Addr) (q : Str) : Bool := PySem.W.keepIn K (.ref a) && (match K.lookup a with
  | some ⟨_, _, .func fd, _⟩ => PySem.W.codeIn K fd.code q && (He.dflB K fd.defaults [] && He.kwdB K fd.kwdefaults [])
  | _ => false)
theorem fun_at {K : PySem.W.Frag} {d : He.DefD} {a : Addr} (e : fnA K a = d.val) (c : okA K a d.qual = true) : ∃ fd, FunD K d.name d.qual d.params d.body d.scope [] [] a fd := by
  obtain ⟨kp, c2⟩ := Bool.and_eq_true_iff.mp c
  unfold fnA at e
  generalize hl : K.lookup a = lo at c2 e
  cases lo with
  | none => cases c2
  | some o =>
    obtain ⟨oc, od, dt, osl⟩ := o
    cases dt
    case func fd =>
      obtain ⟨n1, n2, n3, n4, n5, n6, n7, n8, n9, n10, n11, n12, n13, n14, n15⟩ := fd
      have e2 : (some (n1, n2, n3, n4, n5, n6, n7, n15) : He.FnW) = some (d.name, d.qual, d.params, .stmts d.body, d.scope, mainGlobals, [], builtinsNs) := e
      simp only [Option.some.injEq, Prod.mk.injEq] at e2
      obtain ⟨h1, h2, h3, h4, h5, h6, h7, h8⟩ := e2
      subst h1 h2 h3 h4 h5 h6 h7 h8
      have c3 : (PySem.W.codeIn K n13 d.qual && (He.dflB K n8 [] && He.kwdB K n9 [])) = true := c2
      simp only [Bool.and_eq_true] at c3
      exact ⟨_, ⟨oc, od, n8, n9, n10, n11, n12, n13, n14, osl, rfl, hl, c3.1, He.dflB_ok c3.2.1, He.kwdB_ok c3.2.2⟩, kp⟩
    all_goals cases c2
/-- class, name, def -/
abbrev PropD : Type := Str × Str × He.DefD
def propB (K : PySem.W.Frag) (q : PropD) : Bool :=
  decide (PySem.W.findIn K (.ref (He.ga K q.1)) q.2.1 = some (some (.ref (He.ma K (He.ga K q.1) q.2.1)))) && decide (PySem.W.specialIn K (.ref (He.ma K (He.ga K q.1) q.2.1)) "__get__" = some (some (.builtin "property.__get__"))) &&
  decide (PySem.W.takesIn K (.ref (He.ma K (He.ga K q.1) q.2.1)) = some true) && (match PySem.W.recIn K (He.ma K (He.ga K q.1) q.2.1) "property" with
    | some (.ref _ :: _) => true
    | _ => false) && okA K (gA K q.1 q.2.1) q.2.2.qual
theorem propB_ok {K : PySem.W.Frag} {q : PropD} (h : propB K q = true) : PropOf K (He.ga K q.1) q.2.1 (He.ma K (He.ga K q.1) q.2.1) (gA K q.1 q.2.1) ∧ okA K (gA K q.1 q.2.1) q.2.2.qual = true := by
  simp only [propB, Bool.and_eq_true, decide_eq_true_eq, and_assoc] at h
  obtain ⟨h1, h2, h3, h4, h5⟩ := h
  refine ⟨⟨h1, h2, h3, ?_⟩, h5⟩
  unfold gA
  generalize PySem.W.recIn K (He.ma K (He.ga K q.1) q.2.1) "property" = r at *
  cases r with
  | none => cases h4
  | some l =>
    cases l with
    | nil => cases h4
    | cons v l =>
      cases v
      case ref g => exact ⟨l, rfl⟩
      all_goals cases h4
/-! ### the head's facts, with properties too -/
def obP (n : Nat) (cs : List (PySem.W.Frag → Bool)) (ps : List PropD) (fa : List He.Fa) (fn : List He.DefD) (g : Addr → Option Obj) : Bool × He.AlD × List He.FnW :=
  ((cs.all fun c => c (kX n g)) && ps.all (propB (kX n g)), He.obsD fa fn (kX n g), ps.map fun q => fnA (kX n g) (gA (kX n g) q.1 q.2.1))
def valP (ps : List PropD) (fn : List He.DefD) : Bool × He.AlD × List He.FnW := (true, He.valD fn, ps.map fun q => q.2.2.val)
structure SaysP (cs : List (PySem.W.Frag → Bool)) (ps : List PropD) (fa : List He.Fa) (fn : List He.DefD) (K : PySem.W.Frag) : Prop where
  cs : (cs.all fun c => c K) = true
  pb : ps.all (propB K) = true
  pv : (ps.map fun q => fnA K (gA K q.1 q.2.1)) = ps.map fun q => q.2.2.val
  d : He.SaysD fa fn K
def hookP (n : Nat) (cs : List (PySem.W.Frag → Bool)) (ps : List PropD) (fa : List He.Fa) (fn : List He.DefD) : PySem.W.Hook where
  α := Bool × He.AlD × List He.FnW
  obs := fun s => obP n cs ps fa fn s.heap.get?
  val := fun _ => valP ps fn
  says := fun _ h => ∃ K : PySem.W.Frag, K.In h ∧ SaysP cs ps fa fn K
  of := fun _ _ e => by
    have e1 := congrArg (fun z : Bool × He.AlD × List He.FnW => z.1) e
    obtain ⟨a, b⟩ := Bool.and_eq_true_iff.mp e1
    exact ⟨_, He.frG_in, a, b, congrArg (fun z : Bool × He.AlD × List He.FnW => z.2.2) e, congrArg (fun z : Bool × He.AlD × List He.FnW => z.2.1) e⟩
  keeps := fun _ _ _ h k => by
    obtain ⟨K, hK, c⟩ := h
    exact ⟨K, PySem.W.Frag.In.keeps hK k, c⟩
theorem obP_eq {n : Nat} {cs : List (PySem.W.Frag → Bool)} {ps : List PropD} {fa : List He.Fa} {fn : List He.DefD} {g : Addr → Option Obj} {s : Shared} (h : ∀ a, g a = s.heap.get? a) : obP n cs ps fa fn g = (hookP n cs ps fa fn).obs s := by
  have e : g = s.heap.get? := funext h
  rw [e] <;> rfl
theorem SaysP.prop {cs : List (PySem.W.Frag → Bool)} {ps : List PropD} {fa : List He.Fa} {fn : List He.DefD} {K : PySem.W.Frag} (c : SaysP cs ps fa fn K) (i : Nat) {q : PropD} (h : ps[i]? = some q := by rfl) :
    PropOf K (He.ga K q.1) q.2.1 (He.ma K (He.ga K q.1) q.2.1) (gA K q.1 q.2.1) ∧ ∃ fd, FunD K q.2.2.name q.2.2.qual q.2.2.params q.2.2.body q.2.2.scope [] [] (gA K q.1 q.2.1) fd := by
  obtain ⟨p, o⟩ := propB_ok (List.all_eq_true.mp c.pb q (List.mem_of_getElem? h))
  have e2 : (ps.map fun q => fnA K (gA K q.1 q.2.1))[i]? = (ps.map fun q => q.2.2.val)[i]? := by rw [c.pv]
  rw [List.getElem?_map, List.getElem?_map, h] at e2
  exact ⟨p, fun_at (Option.some.inj e2) o⟩
/-- a def that minds no repr is one where none is under way -/
theorem gok_fn {P : Program} {w : World} {K : PySem.W.Frag} {mg : Str → Option Value} {base : Heap} {C : CXT} {k : Nat} {f : Addr} {fd : FuncData} {ps : List Str} {sp : Sp} (F : FnOk P w K mg base C k f fd ps sp) : GOk P w K mg base C k f fd ps sp :=
  ⟨F.len, fun A fr s H args us vs Q E r _ e b v q => F.run A fr s H args us vs Q E r e b v q⟩
/-- e.f in an except suite, e a kept exception -/
theorem pe_fldS {X : Cx} {a : Addr} {pn : List (Addr × Obj)} {e : Expr} {te : TE} {pos : Pos} {n : Str} (he : PE (X.suite a pn) e te) (hb : attributeBase e n X.env (eval e X.env) = eval e X.env := by rfl) :
    PE (X.suite a pn) (.Attribute e n pos) (tFldV X.K n te) := pe_fldV he hb
end Bs

/-! ### a dict whose keys are (int, tuple of ints, int) -/
namespace Bs
open PySem PySem.Spec PyProof.Rows L2
open Evl (Ex)
abbrev StT := Int × List Int × Int
def stK (x : StT) : NestedKey := .tup [.num x.1, .tup (x.2.1.map NestedKey.num), .num x.2.2]
theorem nums_inj : ∀ {a b : List Int}, a.map NestedKey.num = b.map NestedKey.num → a = b
  | [], [], _ => rfl
  | [], _ :: _, h => nomatch h
  | _ :: _, [], h => nomatch h
  | x :: a, y :: b, h => by
    rw [List.map_cons, List.map_cons] at h
    injection h with h1 h2
    injection h1 with h1
    rw [h1, nums_inj h2]
theorem stK_inj {x y : StT} (h : stK x = stK y) : x = y := by
  obtain ⟨a, b, c⟩ := x
  obtain ⟨d, e, f⟩ := y
  unfold stK at h
  injection h with h
  injection h with h1 h
  injection h with h2 h
  injection h with h3 h
  injection h1 with h1
  injection h2 with h2
  injection h3 with h3
  cases nums_inj h2
  cases h1
  cases h3
  rfl
def StV (H : Hp) (p : Addr) (x : StT) : Prop := ∃ q, H p = some (.tup [.int x.1, .ref q, .int x.2.2]) ∧ H q = some (.tup (x.2.1.map V.int))
theorem StV.ex {H H' : Hp} {p : Addr} {x : StT} (e : Ex H H') (h : StV H p x) : StV H' p x := by
  obtain ⟨q, h1, h2⟩ := h
  exact ⟨q, e _ _ h1, e _ _ h2⟩
theorem nums_all {h : Heap} : ∀ {ks : List Int} {us : List Value}, Vals (ks.map V.int) us → NestedAll h (ks.map NestedKey.num) us
  | [], _, .nil => .nil
  | k :: ks, _, .cons ⟨t, e⟩ r => by subst e; exact .cons (.int k t) (nums_all r)
theorem nums_depth : ∀ ks : List Int, NestedKey.depthAll (ks.map NestedKey.num) = 0
  | [] => rfl
  | k :: ks => by
    rw [List.map_cons, NestedKey.depthAll, nums_depth ks]
    rfl
section
variable {P : Program} {w : World} {H : Hp} {h : Heap}
theorem st_is (ok : HOk P w H h) {p : Addr} {x : StT} (v : StV H p x) : (nestedKind P w).is h (stK x) p := by
  obtain ⟨q, h1, h2⟩ := v
  obtain ⟨_, its, r, o, g1, g2, n, g3⟩ := (show ObjOk P w H h p (.tup _) from ok p _ h1)
  obtain ⟨_, its2, r2, o2, f1, f2, n2, f3⟩ := (show ObjOk P w H h q (.tup _) from ok q _ h2)
  cases r with
  | @cons _ _ _ _ ra r =>
  cases r with
  | @cons _ _ _ _ rb r =>
  cases r with
  | @cons _ _ _ _ rc r =>
  cases r
  obtain ⟨t, rfl⟩ := ra
  cases rb
  obtain ⟨t', rfl⟩ := rc
  refine ⟨.tup g1 g2 g3 (.cons (.int _ _) (.cons (.tup f1 f2 f3 (by simpa using nums_all r2)) (.cons (.int _ _) .nil))), ?_⟩
  show NestedKey.depth (.tup _) ≤ 8
  rw [NestedKey.depth, NestedKey.depthAll, NestedKey.depthAll, NestedKey.depthAll, NestedKey.depthAll, NestedKey.depth, NestedKey.depth, NestedKey.depth, nums_depth]
  decide
end
def seenX (ks : List (StT × Addr)) : List (NestedKey × Addr × Value) := ks.map fun q => (stK q.1, q.2, .bool true)
/-- such a dict, with values True -/
def SeenO (P : Program) (w : World) (d : Addr) (ks : List (StT × Addr)) : HO := .ext fun h => (d == sysModules) = false ∧ ks.length ≤ sizeLine ∧ ∃ o es ep, h.get? d = some o ∧ o.ExactDict ∧ o.data = .dict es ep ∧ es.toList = (seenX ks).map (entryOfKey (nestedKind P w)) ∧ ((seenX ks).map (·.1)).Nodup
theorem seen_ok {P : Program} {w : World} {H : Hp} {h : Heap} {d : Addr} {ks : List (StT × Addr)} (hd : (d == sysModules) = false) (hl : ks.length ≤ sizeLine) {o : Obj} {es : Array DictEntry} {ep : Nat} (h1 : h.get? d = some o) (h2 : o.ExactDict) (h3 : o.data = .dict es ep)
    (h4 : es.toList = (seenX ks).map (entryOfKey (nestedKind P w))) (h5 : ((seenX ks).map (·.1)).Nodup) : ObjOk P w H h d (SeenO P w d ks) :=
  ⟨⟨hd, hl, o, es, ep, h1, h2, h3, h4, h5⟩, ⟨o, h1⟩, fun _ _ ⟨a, b, o', es', ep', c, r⟩ k => ⟨a, b, o', es', ep', k _ c, r⟩⟩
theorem seen_rd {P : Program} {w : World} {H : Hp} {h : Heap} {d : Addr} {ks : List (StT × Addr)} (ok : HOk P w H h) (e : H d = some (SeenO P w d ks)) (all : ∀ q ∈ ks, StV H q.2 q.1) : (d == sysModules) = false ∧ ks.length ≤ sizeLine ∧ h.DictOfH (nestedKind P w) d (seenX ks) := by
  obtain ⟨⟨hd, hl, o, es, ep, h1, h2, h3, h4, h5⟩, _⟩ := (show ObjOk P w H h d (SeenO P w d ks) from ok d _ e)
  refine ⟨hd, hl, o, es, ep, h1, h2, h3, h4, fun x hx => ?_, h5⟩
  obtain ⟨q, hq, rfl⟩ := List.mem_map.mp hx
  exact st_is ok (all q hq)
theorem seen_at (ks : List (StT × Addr)) (x : StT) : (atKey (seenX ks) (stK x)).isSome = ks.any fun q => decide (q.1 = x) := by
  unfold atKey seenX
  rw [Option.isSome_map]
  induction ks with
  | nil => rfl
  | cons q ks ih =>
    rw [List.map_cons, List.find?_cons, List.any_cons]
    by_cases h : q.1 = x
    · rw [h, decide_eq_true rfl, decide_eq_true rfl]
      rfl
    · rw [decide_eq_false h, decide_eq_false (fun z => h (stK_inj z))]
      exact ih
def tDNewS (P : Program) (w : World) : TE := fun _ H Q => ∀ p, H p = none → Q (.ref p) (upd H p (SeenO P w p []))
section
variable {X : Cx} {pos : Pos}
theorem pe_dnewS : PE X (.Dict [] [] pos) (tDNewS X.prog X.w) := ⟨fun pins s σ H Q I h =>
  wpAny_Dict_empty ⟨.ref s.heap.objs.size, _, I.laid (a := s.heap.objs.size) (o := SeenO X.prog X.w s.heap.objs.size []) (t' := s.toks) (fun _ _ q => Heap.get?_push_of_some _ q) (Nat.le_refl _)
    (seen_ok (beq_eq_false_iff_ne.mpr (Ne.symm (Nat.ne_of_lt I.big))) (Nat.zero_le _) (es := #[]) (ep := 0) (Heap.get?_push_size _ rfl) ⟨rfl, rfl, rfl⟩ rfl rfl List.nodup_nil), rfl, h _ (I.hok.fresh (Nat.le_refl _))⟩⟩
def SeenA (P : Program) (w : World) (H : Hp) (d : Addr) (ks : List (StT × Addr)) : Prop := H d = some (SeenO P w d ks) ∧ ∀ q ∈ ks, StV H q.2 q.1
def rNiS (P : Program) (w : World) : R2 := fun x y H Q => ∃ d p st ks, x = .ref p ∧ y = .ref d ∧ SeenA P w H d ks ∧ StV H p st ∧ Q (.bl (!(ks.any fun q => decide (q.1 = st)))) H
theorem op_niS {n : Nat} (hr : Room n X.A) : OpR X (compareOp .NotIn) (rNiS X.prog X.w) := by
  intro pins s σ H x y v u Q I rx ry ⟨d, p, st, ks, ex, ey, ⟨hd, all⟩, hp, q⟩
  subst ex ey
  cases rx
  cases ry
  obtain ⟨h1, _, h2⟩ := seen_rd I.hok hd all
  have hu := hr.un
  refine wpAny_notIn_heap (knd := nestedKind X.prog X.w) (by show X.A.units + 1 + 8 < cLine; omega) (st_is I.hok hp) h1 h2 ?_
  rw [seen_at]
  exact ⟨.bl _, H, I.tok _, rfl, q⟩
def rSetS (P : Program) (w : World) : V → V → V → Hp → (Hp → Prop) → Prop := fun o i v H Q => ∃ d p st ks, o = .ref d ∧ i = .ref p ∧ v = .bl true ∧ SeenA P w H d ks ∧ StV H p st ∧ (ks.any fun q => decide (q.1 = st)) = false ∧ ks.length < sizeLine ∧ Q (upd H d (SeenO P w d (ks ++ [(st, p)])))
theorem set_seen {n : Nat} (hr : Room n X.A) : PSet X (rSetS X.prog X.w) := by
  intro pins s σ H o i v ov iv u Q I ro ri rv h
  obtain ⟨d, p, st, ks, eo, ei, ev, ⟨hd, all⟩, hp, hno, hl, q⟩ := h
  subst eo ei ev
  cases ro
  cases ri
  cases rv
  obtain ⟨h1, l1, h2⟩ := seen_rd I.hok hd all
  have hu := hr.un
  have na : atKey (seenX ks) (stK st) = none := by
    have := seen_at ks st
    rw [hno] at this
    cases e : atKey (seenX ks) (stK st) with
    | none => rfl
    | some z => rw [e] at this; cases this
  refine wpAny_setItem_heap (knd := nestedKind X.prog X.w) (hsz := by unfold seenX; rw [List.length_map]; exact l1) (by show X.A.units + 1 + 8 < cLine; omega) (st_is I.hok hp) h2 fun h' dd' hs => ?_
  rw [storedH_new na] at dd'
  obtain ⟨ob, es, ep, hq, g2, g3, g4, _, g5⟩ := dd'
  have e9 : seenX ks ++ [(stK st, p, Value.bool true)] = seenX (ks ++ [(st, p)]) := by unfold seenX; rw [List.map_append]; rfl
  rw [e9] at g4 g5
  refine ⟨_, d_write I (by rw [hd]; exact True.intro) hs ⟨ob, hq⟩ (seen_ok h1 (by rw [List.length_append]; exact hl) hq g2 g3 g4 g5), q⟩
end
end Bs

namespace Bs
open PySem PySem.Spec PyProof.Rows L2
open Evl (Ex)
/-- sorted of a tuple of ints -/
def rSortedTI (K : PySem.W.Frag) : List V → Hp → VK → Prop := fun vs H Q => ∃ (a : Addr) (ns : List Int), vs = [V.ref a] ∧ SqT K H a (ns.map V.int) ∧
  ∀ (zs : List Int) (p : Addr), zs.Perm ns → zs.Pairwise (· ≤ ·) → H p = none → Q (.ref p) (upd H p (.lst (zs.map V.int)))
theorem cr_sortedTI {X : Cx} : CallR X (.builtin "sorted") (rSortedTI X.K) := by
  intro pins s σ H vs us Q I r h
  obtain ⟨a, ns, rfl, hs, q⟩ := h
  obtain ⟨its, rv, ⟨o, h1, h2, n, h3⟩, hz⟩ := I.tuple hs
  rw [Vals.ref1 r]
  have hi := rv.ints
  have hl : its.length ≤ sizeLine := by rw [← rv.length]; exact hz
  refine Calls.call_function_entry kind_sorted plain_sorted entry_sorted (args_sorted1 _) ?_; unfold Builtin.«sorted»
  refine wpAny_bind (m := checkCount "sorted" 1 1 _) (wpAny_pure (wpAny_bind (wpAny_collect_seq (hsz := by rw [List.size_toArray]; exact hl) a (.inr rfl) h1 h2 h3 fun h' keep => ?_)))
  have I1 : Inv X pins σ H { s with heap := h' } := I.kept (t' := s.toks) keep
  have eL : its.toArray.toList = its := by simp
  rw [eL]
  refine wpAny_bind (wpAny_newList ?_ hl)
  have hoL : (h'.push (PyProof.Rows.seqObj "list" its.toArray 0)).get? h'.objs.size = some (PyProof.Rows.seqObj "list" its.toArray 0) := Heap.get?_push_size _ rfl
  refine wpAny_bind (wpAny_holding (wpAny_call_entry slot_list_sort ⟨_, hoL, rfl⟩ entry_list_sort (SrtO.list_sort_ord SrtO.swo_int hoL hl (fun h2 => SrtO.ints_sortable hi h2) fun out s1 s2 => ⟨_, rfl, ?_⟩) (args_list_sort _)))
  obtain ⟨k1, k2, k3⟩ := SrtO.ints_out hi s1 s2
  obtain ⟨ep, he'⟩ := PyProof.Rows.sortedHeap_at (vs := its) (out := out.toArray) hoL
  have hlen : ((out.map SrtO.iv).map V.int).length ≤ sizeLine := by
    rw [List.length_map, k2.length_eq]
    rw [List.length_map] at hz
    exact hz
  refine wpAny_pure ⟨_, rfl, .ref _, upd H h'.objs.size (.lst ((out.map SrtO.iv).map V.int)), I1.laid (t' := s.toks) (fun b u hb => ?_) (Nat.le_refl _) ⟨hlen, out, ep, vals_of_ints k1, he'⟩, rfl, q _ _ k2 k3 (I1.hok.fresh (Nat.le_refl _))⟩
  have hlt := Heap.lt_size hb
  rw [PyProof.Rows.sortedHeap_old (Nat.ne_of_lt hlt) (by rw [PyProof.Rows.size_push']; exact Nat.lt_succ_of_lt hlt)]
  exact Heap.get?_push_of_some _ hb
end Bs

namespace Bs
open PySem PySem.Spec PyProof.Rows L2
open Evl (Ex)
/-! ### enumerate of a tuple -/
theorem enum_newB {v : Value} {o : Obj} {G : Heap → Prop} (B : Begins v o G) : Meets (Builtin.«enumerate.__new__» ⟨[.type "enumerate", v], []⟩) (fun _ R s => G s.heap ∧
    R (.ok (.ret (.ref (s.heap.push o).objs.size))) { s with heap := (s.heap.push o).push { cls := .type "enumerate", data := .fields #[.none, .bool false, .ref s.heap.objs.size, rawInt 0, .none, .none] } }) :=
  .of_wp fun prog w A R ⟨hp, g, d, tk, os⟩ ⟨h1, h⟩ => by
    have sb := sub_enumerate
    have qi : ∀ {A' : Around} {E : Value → Shared → Prop} {Q : Value → Shared → Prop}, Q (.ref hp.objs.size) ⟨hp.push o, g, d, tk, os⟩ → wpAny (model prog w) A' (pyIter v) Q E ⟨hp, g, d, tk, os⟩ := fun q => B.iter prog w _ _ ⟨hp, g, d, tk, os⟩ _ h1 q
    wp_walk using qi
    refine wpAny_stack_any fun st => wpAny_pure ?_
    split
    · rename_i c _ _ _ _ _
      cases (c == Value.type "enumerate") <;> (wp_walk using qi; exact ⟨_, rfl, h⟩)
    · wp_walk using qi; exact ⟨_, rfl, h⟩
theorem enum_beginsB {prog : Program} {w : World} {A : Around} {E : Value → Shared → Prop} {s : Shared} {v : Value} {o : Obj} {G : Heap → Prop} {Q : Value → Shared → Prop} (B : Begins v o G) (h1 : G s.heap)
    (h : ∀ h', IsEnum h' (s.heap.objs.size + 1) s.heap.objs.size 0 .none → h'.get? s.heap.objs.size = some o → h'.objs.size = s.heap.objs.size + 2 → (∀ b o, s.heap.get? b = some o → h'.get? b = some o) → Q (.ref (s.heap.objs.size + 1)) { s with heap := h' }) :
    wpAny (model prog w) A (call (.type "enumerate") [v]) Q E s := by
  refine callType_new F.called_enumerate (by decide) (F.typeCall_enumerate_1 _) (F.newCall_enumerate_1 _) (fun ob => F.args_object_init_2 ob _) F.entry_enumerate_new (enum_newB B) ⟨h1, ?_⟩
  have hz : (s.heap.push o).objs.size = s.heap.objs.size + 1 := Heap.size_push ..
  show _ ∧ _
  rw [hz]
  have he := Heap.get?_push_size (s.heap.push o) (o := { cls := .type "enumerate", data := .fields #[.none, .bool false, .ref s.heap.objs.size, rawInt 0, .none, .none] }) rfl
  rw [hz] at he
  exact ⟨⟨_, he, rfl⟩, h _ he (Heap.get?_push_of_some _ (Heap.get?_push_size _ B.free)) (by rw [Heap.size_push, hz]) fun b o x => Heap.get?_push_of_some _ (Heap.get?_push_of_some _ x)⟩
def IteT (K : PySem.W.Frag) (a : Addr) (m : Nat) : It :=
  ⟨fun i H => ∃ (xs : List V) (x : V), SqT K H a xs ∧ xs[i]? = some x ∧ xs.length = m, fun i H v H' => ∃ T x, v = .ref T ∧ H T = none ∧ H' = upd H T (.tup [.int (i : Nat), x]) ∧ ∀ xs, SqT K H a xs → xs[i]? = some x, fun i H => ∃ xs : List V, SqT K H a xs ∧ xs.length ≤ i ∧ xs.length = m⟩
theorem turn_enumT {P : Program} {w : World} {K : PySem.W.Frag} {elts : List Expr} {kk : Nat} {tpos : Pos} (a e it : Addr) (m : Nat) :
    Turn P w K (.Tuple elts kk tpos) (IteT K a m) [e, it] e (fun i h => (∃ old, IsEnum h e it ((i : Nat) : Int) old) ∧ h.IsTupleIter it a i ∧ e ≠ it ∧ i ≤ m) where
  mem := by simp
  obj := fun i h ⟨⟨old, he⟩, ⟨o, ho, hc, hd⟩, _⟩ b hb => by
    rcases (by simpa using hb : b = e ∨ b = it) with z | z
    · rw [z]; exact ⟨_, he, fun v q => nomatch q⟩
    · rw [z]; exact ⟨o, ho, fun v q => by rw [hd] at q; cases q⟩
  keep := fun i h h' ⟨⟨old, he⟩, hi, hne, hm⟩ k => ⟨⟨old, k e (by simp) _ he⟩, hi.at fun o q => k it (by simp) o q, hne, hm⟩
  item := by
    intro X hP hw hK hc i pins s σ H E I hf ⟨⟨old, he⟩, hit, hne, hm⟩ ⟨xs, x, hq, hx, hxm⟩
    subst hP hw hK
    obtain ⟨its, rv, p, hz⟩ := I.tuple hq
    obtain ⟨u, hu, ru⟩ := rv.get hx
    have p2 : s.heap.IsTuple a its.toArray := p
    have hl := rv.length
    have hel : e < s.heap.objs.size := Heap.lt_size he
    have hil : it < s.heap.objs.size := by obtain ⟨_, q, _⟩ := hit; exact Heap.lt_size q
    have nae : a ≠ it := fun z => by
      obtain ⟨o1, q1, c1, _⟩ := hit
      obtain ⟨o2, q2, c2, _⟩ := p2
      rw [z, q1] at q2
      cases q2
      rw [c1] at c2
      exact absurd (Value.type.inj c2) (by decide)
    have na : a ≠ e := fun z => by
      obtain ⟨o2, q2, c2, _⟩ := p2
      rw [z, he] at q2
      cases q2
      exact absurd (Value.type.inj c2) (by decide)
    have im : i < its.toArray.size := by
      have := (List.getElem?_eq_some_iff.mp hx).1
      simp; omega
    refine wpAny_pyNext_enum_itemD (Draws.tuple (A := X.A.in1) (I.ok.hd hc) it a nae its.toArray) he ⟨hit, p2⟩ im hne (by simp [hne, Ne.symm na]) fun u1 h' tk hu1 ho hst hT hsz hk => ?_
    obtain rfl : u1 = u := by
      have : its.toArray[i]? = some u := by simpa using hu
      rw [hu1] at this
      exact Option.some.inj this
    refine ⟨_, rfl, wpAny_letOwnedTupleGo_enum (s := { s with heap := h', toks := tk + 1 }) ho fun h'' he' sb => ?_⟩
    have hT2 : h''.get? s.heap.objs.size = some { cls := .type "tuple", data := .seq #[.int i tk, u1] } := (sb.2 _ (Nat.ne_of_gt hel)).trans hT
    have new : ObjOk X.prog X.w (upd H s.heap.objs.size (.tup [.int (i : Nat), x])) h'' s.heap.objs.size (.tup [.int (i : Nat), x]) :=
      ⟨by show 2 ≤ sizeLine; decide, [.int i tk, u1], .cons ⟨_, rfl⟩ (.cons ru .nil), ⟨_, hT2, rfl, _, rfl⟩⟩
    have I1 : Inv X pins σ (upd H s.heap.objs.size (.tup [.int (i : Nat), x])) { s with heap := h'', toks := tk + 1 } :=
      I.turnedNew (ch := [e, it]) (fun b ob hb q => (sb.2 b (fun z => hb (by simp [z]))).trans (hk b ob (fun z => hb (by simp [z])) (fun z => hb (by simp [z])) q)) hf (Nat.le_refl _) new
    refine ⟨.ref s.heap.objs.size, _, I1, rfl, ⟨_, x, rfl, I.hok.fresh (Nat.le_refl _), rfl, fun ys hy => by rw [I.tuple_inj hy hq]; exact hx⟩, ⟨⟨u1, ?_⟩, hst.1.at fun o q => (sb.2 it (Ne.symm hne)).trans q, hne, ?_⟩, fun b hb => ?_⟩
    · rw [show ((i + 1 : Nat) : Int) = (i : Int) + 1 by omega]; exact he'
    · have := (List.getElem?_eq_some_iff.mp hx).1
      omega
    · have hb' : b < s.heap.objs.size := by
        rcases (by simpa using hb : b = e ∨ b = it) with z | z
        · rw [z]; exact hel
        · rw [z]; exact hil
      rw [upd_ne (Nat.ne_of_lt hb')]
      exact (hf b hb).1
  done := by
    intro X hP hw hK hc i pins s σ H E I hf ⟨⟨old, he⟩, hit, hne, hm⟩ ⟨xs, hq, hx, hxm⟩
    subst hP hw hK
    obtain ⟨its, rv, p, hz⟩ := I.tuple hq
    have p2 : s.heap.IsTuple a its.toArray := p
    obtain ⟨f0, f1, f2, f3, f4, f5⟩ := hf it (by simp)
    have hl := rv.length
    have nae : a ≠ it := fun z => by
      obtain ⟨o1, q1, c1, _⟩ := hit
      obtain ⟨o2, q2, c2, _⟩ := p2
      rw [z, q1] at q2
      cases q2
      rw [c1] at c2
      exact absurd (Value.type.inj c2) (by decide)
    have e1 : i = its.toArray.size := by simp; omega
    refine wpAny_pyNext_enum_endD (Draws.tuple (A := X.A.in1) (I.ok.hd hc) it a nae its.toArray) he ⟨e1 ▸ hit, p2⟩ fun h' eb => ⟨rfl, I.turned (t' := s.toks) (fun b o hb q => eb b o hb q) f0 f1 f3 f4 f5⟩
  self := fun A i s Q E ⟨⟨_, he⟩, _⟩ h => wpAny_pyIter_enum he h
def iEnumT (K : PySem.W.Frag) (ta : TA) : TI := fun σ H R => ta σ H fun vs H1 => ∃ a xs, vs = [.ref a] ∧ SqT K H1 a xs ∧ R (IteT K a xs.length) H1
theorem pi_enumT {X : Cx} {e : Expr} {ta : TA} {p pos tpos : Pos} {elts : List Expr} {kk : Nat} (hg : Gl X "enumerate") (hm : X.mg "enumerate" = none) (ha : PA X [e] ta) (hs : starEach [e] X.env = [(false, eval e X.env)] := by rfl) :
    PI X (.Tuple elts kk tpos) (.Call (.Name "enumerate" p) [e] [] pos) (iEnumT X.K ta) := by
  refine ⟨fun pins s σ H R I h => Call_ (ld_blt I hg hm boot_enumerate (PyProof.Rows.callWith_type1 (thn (ha.run pos pins s σ H _ I h) fun us s1 ⟨vs, H1, I1, r1, a, xs, ex, hq, q⟩ => ?_) hs rfl))⟩
  subst ex
  cases r1 with
  | cons r rr =>
    cases rr
    cases r
    obtain ⟨its, rv, p', hz⟩ := I1.tuple hq
    refine enum_beginsB (begins_tuple a its.toArray) p' fun h' he hit hsz hk => wpAny_pyIter_enum he ?_
    have I2 : Inv X pins σ H1 { s1 with heap := h' } := I1.kept (t' := s1.toks) hk
    refine ⟨s1.heap.objs.size + 1, [s1.heap.objs.size + 1, s1.heap.objs.size], _, _, H1, rfl, I2, turn_enumT a (s1.heap.objs.size + 1) s1.heap.objs.size xs.length, ⟨⟨.none, he⟩, ⟨_, hit, rfl, rfl⟩, Nat.succ_ne_self _, Nat.zero_le _⟩, fun b hb => ?_, q⟩
    have hle : s1.heap.objs.size ≤ b := by
      rcases (by simpa using hb : b = s1.heap.objs.size + 1 ∨ b = s1.heap.objs.size) with z | z
      · rw [z]; exact Nat.le_add_right _ _
      · rw [z]; exact Nat.le_refl _
    exact I1.fpOk hle (I1.hok.fresh hle)
section
variable {K : PySem.W.Frag} {σ : L2.St} {H : Hp} {ta : TA} {tb : TS} {g : TG} {D : Ends} {a : Addr} {xs : List V}
theorem tFor_enumT : tFor (iEnumT K ta) g tb D σ H = ta σ H fun us H1 => ∃ a xs, us = [.ref a] ∧ SqT K H1 a xs ∧ ForJ (IteT K a xs.length) g tb D σ H1 := rfl
theorem walk_enumT : Walk (IteT K a xs.length) xs.length (fun H => SqT K H a xs) (YPair (fun i => some (.int (i : Nat))) (fun i => xs[i]?)) := by
  refine ⟨fun i _ hi q => ⟨xs, xs[i], q, by simp [hi], rfl⟩, fun _ q => ⟨xs, q, Nat.le_refl _, rfl⟩, fun i H v H' _ q ⟨T, x, h1, h2, h3, h4⟩ => ⟨T, .int (i : Nat), x, h1, h2, h3, rfl, h4 xs q⟩⟩
theorem forET_in (Pv : Nat → L2.St → Hp → Prop) (h0 : Pv 0 σ H) (hl : ∀ i σ' H', i ≤ xs.length → Pv i σ' H' → SqT K H' a xs) (hd : ∀ σ H, Pv xs.length σ H → D.nx σ H)
    (hs : ∀ (i : Nat) x T σ H, xs[i]? = some x → Pv i σ H → H T = none → g (.ref T) σ (upd H T (.tup [.int (i : Nat), x])) fun σ2 H2 => tb { D with nx := Pv (i + 1), ct := Pv (i + 1), bk := D.nx } σ2 H2) : ForJ (IteT K a xs.length) g tb D σ H := by
  refine for_it walk_enumT Pv h0 hl ?_ hd
  rintro i x σ H H' hi p ⟨T, x1, y1, rfl, hT, rfl, h1, h2⟩
  cases h1
  exact hs i y1 T σ H h2 p hT
end
end Bs

namespace Bs
open PySem PySem.Spec PyProof.Rows L2
/-- a list != [] -/
def rNeL0 (K : PySem.W.Frag) : R2 := fun x y H Q => ∃ a b xs, x = .ref a ∧ y = .ref b ∧ SqL K H a xs ∧ SqL K H b [] ∧ Q (.bl (decide (xs.length ≠ 0))) H
theorem op_neL0 {X : Cx} {n : Nat} (hr : Room n X.A) : OpR X (compareOp .NotEq) (rNeL0 X.K) := by
  intro pins s σ H x y v u Q I rx ry ⟨a, b, xs, ex, ey, ha, hb, q⟩
  subst ex ey
  cases rx
  cases ry
  obtain ⟨its, r1, t1, l1⟩ := I.list ha
  obtain ⟨its2, r2, t2, l2⟩ := I.list hb
  cases r2
  have hl := r1.length
  by_cases h : xs.length = 0
  · have e0 : its = [] := List.length_eq_zero_iff.mp (by omega)
    subst e0
    rw [decide_eq_false (fun z => z h)] at q
    refine PySem.SeqAt.RcNeAt.lists (A := X.A) (items := (([] : List Value)).toArray) (items2 := (([] : List Value)).toArray) (e := fun _ => true) t1.isList t2.isList rfl hr.units0 (fun j h1 => absurd h1 (by simp)) X.prog X.w X.xe _ ?_
    exact ⟨.bl _, H, I, rfl, q⟩
  · rw [decide_eq_true h] at q
    refine PySem.SeqAt.RcNeAt.lists_lengths (A := X.A) (items := its.toArray) (items2 := (([] : List Value)).toArray) t1.isList t2.isList (bne_iff_ne.mpr (show its.toArray.size ≠ 0 by rw [List.size_toArray]; omega)) hr.units0 X.prog X.w X.xe _ ?_
    exact ⟨.bl _, H, I, rfl, q⟩
end Bs

namespace Bs
open PySem PySem.Spec PyProof.Rows L2
open Evl (Ex)
/-! ### all lists of operations, state by state -/
def insK (h : Int) : List Int → List Int
  | [] => [h]
  | k :: ks => if h < k then h :: k :: ks else k :: insK h ks
def nextL (n s : Int) (x : StT) : List (StT × Int) :=
  ((List.range (n - x.1 - 1).toNat).map fun (i : Nat) => ((x.1 + (1 + (i : Int)), x.2.1, x.2.2), 1 + (i : Int))) ++
  (if x.1 ∉ x.2.1 ∧ (x.2.1.length : Int) < s then [((x.1, insK x.1 x.2.1, x.2.2), (0 : Int))] else []) ++
  ((List.range x.2.1.length).flatMap fun (i : Nat) => [((x.2.1.getD i 0, x.2.1, x.2.2), (0 : Int)), ((x.1, x.2.1.take i ++ x.2.1.drop (i + 1), x.2.2), (0 : Int))]) ++
  (if x.2.2 < n ∧ x.1 = n - 1 - x.2.2 then [((x.1, x.2.1, x.2.2 + 1), (0 : Int))] else [])
def codeS (x : StT) : Nat := x.1.toNat + 6 * x.2.2.toNat + 42 * (x.2.1.map fun k => 2 ^ k.toNat).sum
def decS (c : Nat) : StT := (((c % 6 : Nat) : Int), ((List.range 6).filter fun i => (c / 42).testBit i).map (fun (i : Nat) => (i : Int)), ((c / 6 % 7 : Nat) : Int))
def okS (x : StT) : Bool := decide (decS (codeS x) = x)
/-- lists of states by steps, the last one first -/
def getW (w : List (Int × List StT)) (k : Int) : List StT := match w with
  | [] => []
  | q :: w => if q.1 = k then q.2 else getW w k
def addW (w : List (Int × List StT)) (k : Int) (x : StT) : List (Int × List StT) := match w with
  | [] => [(k, [x])]
  | q :: w => if q.1 = k then (q.1, x :: q.2) :: w else q :: addW w k x
structure Bf where
  wait : List (Int × List StT)
  todo : List StT
  seen : Nat
def pushB (k : Int) (b : Bf) (q : StT × Int) : Option Bf :=
  if okS q.1 = false then none else if b.seen.testBit (codeS q.1) then some b else if q.2 = 0 then some { b with todo := q.1 :: b.todo } else if 0 < q.2 then some { b with wait := addW b.wait (k + q.2) q.1 } else none
def pushAll (k : Int) : Bf → List (StT × Int) → Option Bf
  | b, [] => some b
  | b, q :: l => match pushB k b q with
    | none => none
    | some b' => pushAll k b' l
def goB (n s : Int) : Nat → Int → Bf → Option Int
  | 0, _, _ => none
  | f + 1, k, b => match b.todo with
    | [] => if k + 1 < n * n then goB n s f (k + 1) { b with todo := getW b.wait (k + 1) } else none
    | x :: l => if x.2.2 = n then some k else if b.seen.testBit (codeS x) then goB n s f k { b with todo := l } else
      match pushAll k { b with todo := l, seen := b.seen ||| (1 <<< codeS x) } (nextL n s x) with
      | none => none
      | some b' => goB n s f k b'
def bf0 : Bf := { wait := [(0, [(0, [0], 0)])], todo := [(0, [0], 0)], seen := 0 }
def tzT (n s : Int) : Int := if n ≤ 1 then 0 else if n = 2 then 1 else if n = 3 then (if s = 1 then 3 else 2) else if n = 4 then (if s = 1 then 6 else if s = 2 then 4 else 3) else if n = 5 then (if s = 1 then 10 else if s = 2 then 6 else 5) else (if s = 1 then 15 else if s = 2 then 8 else 7)
theorem bf_all : ((List.range 6).all fun n => (List.range 3).all fun s => decide (goB (n + 1 : Nat) (s + 1 : Nat) 2000 0 bf0 = some (tzT (n + 1 : Nat) (s + 1 : Nat)))) = true := by decide +kernel
def topS (i : Nat) : Stmt := PySem.Challenge.pw_backslots_k05_least_steps_by_all_lists.main.body.getD i (.Pass ⟨0, 0, 0, 0⟩)
abbrev s_is_int : Stmt := topS 1
abbrev s_is_whole : Stmt := topS 2
abbrev s_require_length : Stmt := topS 10
abbrev s_require_slots : Stmt := topS 11
abbrev s_require_task : Stmt := topS 12
abbrev s_reach_of : Stmt := topS 13
abbrev s_rounds_of : Stmt := topS 14
abbrev s_steps_with : Stmt := topS 16
abbrev s_least_of : Stmt := topS 17
abbrev s_least_steps : Stmt := topS 18
abbrev s_L_wound : Stmt := topS 20
abbrev s_L_spin : Stmt := topS 21
abbrev s_L_next : Stmt := topS 22
abbrev s_L_fewest : Stmt := topS 23
abbrev s_law : Stmt := topS 24
structure Txt (P : Program) (w : World) (K : PySem.W.Frag) (mg : Str → Option Value) (base : Heap) where
  a_is_int : Addr
  fd_is_int : FuncData
  F_is_int : FnP K "is_int" "is_int" s_is_int a_is_int fd_is_int
  b_is_int : Binds K fd_is_int ["value"] []
  g_is_int : mg "is_int" = some (.ref a_is_int)
  a_is_whole : Addr
  fd_is_whole : FuncData
  F_is_whole : FnP K "is_whole" "is_whole" s_is_whole a_is_whole fd_is_whole
  b_is_whole : Binds K fd_is_whole ["value", "low", "high"] []
  g_is_whole : mg "is_whole" = some (.ref a_is_whole)
  a_require_length : Addr
  fd_require_length : FuncData
  F_require_length : FnP K "require_length" "require_length" s_require_length a_require_length fd_require_length
  b_require_length : Binds K fd_require_length ["value"] []
  g_require_length : mg "require_length" = some (.ref a_require_length)
  a_require_slots : Addr
  fd_require_slots : FuncData
  F_require_slots : FnP K "require_slots" "require_slots" s_require_slots a_require_slots fd_require_slots
  b_require_slots : Binds K fd_require_slots ["value"] []
  g_require_slots : mg "require_slots" = some (.ref a_require_slots)
  a_require_task : Addr
  fd_require_task : FuncData
  F_require_task : FnP K "require_task" "require_task" s_require_task a_require_task fd_require_task
  b_require_task : Binds K fd_require_task ["length", "slots"] []
  g_require_task : mg "require_task" = some (.ref a_require_task)
  a_reach_of : Addr
  fd_reach_of : FuncData
  F_reach_of : FnP K "reach_of" "reach_of" s_reach_of a_reach_of fd_reach_of
  b_reach_of : Binds K fd_reach_of ["slots", "rounds"] []
  g_reach_of : mg "reach_of" = some (.ref a_reach_of)
  a_rounds_of : Addr
  fd_rounds_of : FuncData
  F_rounds_of : FnP K "rounds_of" "rounds_of" s_rounds_of a_rounds_of fd_rounds_of
  b_rounds_of : Binds K fd_rounds_of ["length", "slots"] []
  g_rounds_of : mg "rounds_of" = some (.ref a_rounds_of)
  a_steps_with : Addr
  fd_steps_with : FuncData
  F_steps_with : FnP K "steps_with" "steps_with" s_steps_with a_steps_with fd_steps_with
  b_steps_with : Binds K fd_steps_with ["length", "slots", "rounds"] []
  g_steps_with : mg "steps_with" = some (.ref a_steps_with)
  a_least_of : Addr
  fd_least_of : FuncData
  F_least_of : FnP K "least_of" "least_of" s_least_of a_least_of fd_least_of
  b_least_of : Binds K fd_least_of ["length", "slots"] []
  g_least_of : mg "least_of" = some (.ref a_least_of)
  a_least_steps : Addr
  fd_least_steps : FuncData
  F_least_steps : FnP K "least_steps" "least_steps" s_least_steps a_least_steps fd_least_steps
  b_least_steps : Binds K fd_least_steps ["length", "slots"] []
  g_least_steps : mg "least_steps" = some (.ref a_least_steps)
  a_L_wound : Addr
  fd_L_wound : FuncData
  F_L_wound : FnP K "_law_wound" "_law_wound" s_L_wound a_L_wound fd_L_wound
  b_L_wound : Binds K fd_L_wound ["_law_script", "_law_k"] []
  g_L_wound : mg "_law_wound" = some (.ref a_L_wound)
  a_L_spin : Addr
  fd_L_spin : FuncData
  F_L_spin : FnP K "_law_spin" "_law_spin" s_L_spin a_L_spin fd_L_spin
  b_L_spin : Binds K fd_L_spin ["_law_reel", "_law_many"] []
  g_L_spin : mg "_law_spin" = some (.ref a_L_spin)
  a_L_next : Addr
  fd_L_next : FuncData
  F_L_next : FnP K "_law_next" "_law_next" s_L_next a_L_next fd_L_next
  b_L_next : Binds K fd_L_next ["_law_n", "_law_s", "_law_at"] []
  g_L_next : mg "_law_next" = some (.ref a_L_next)
  a_L_fewest : Addr
  fd_L_fewest : FuncData
  F_L_fewest : FnP K "_law_fewest" "_law_fewest" s_L_fewest a_L_fewest fd_L_fewest
  b_L_fewest : Binds K fd_L_fewest ["_law_n", "_law_s"] []
  g_L_fewest : mg "_law_fewest" = some (.ref a_L_fewest)
  a_law : Addr
  fd_law : FuncData
  F_law : FnP K "law" "law" s_law a_law fd_law
  b_law : Binds K fd_law ["_law_script"] []
  g_law : mg "law" = some (.ref a_law)
  n_isinstance : mg "isinstance" = none
  n_int : mg "int" = none
  n_bool : mg "bool" = none
  n_range : mg "range" = none
  n_len : mg "len" = none
  n_max : mg "max" = none
  n_tuple : mg "tuple" = none
  n_sorted : mg "sorted" = none
  n_enumerate : mg "enumerate" = none
  n_min : mg "min" = none
  t_MOST_LENGTH : Tok
  c_MOST_LENGTH : mg "MOST_LENGTH" = some (.int 1000000000000000000000000000000 t_MOST_LENGTH)
  t_MOST_SLOTS : Tok
  c_MOST_SLOTS : mg "MOST_SLOTS" = some (.int 100 t_MOST_SLOTS)
  er : ErrI K mg [7, 8, 17]
  sy : (K.lookup sysModules).isSome = true
theorem scal_ii {i j : Int} : scal (.int i) (.int j) = true := rfl
theorem scal_bb {i j : Bool} : scal (.bl i) (.bl j) = true := rfl
theorem scal_ss {i j : Str} : scal (.str i) (.str j) = true := rfl
theorem scal_nn : scal .non .non = true := rfl
theorem scal_ni {j : Int} : scal .non (.int j) = true := rfl
theorem scal_in {j : Int} : scal (.int j) .non = true := rfl
theorem scal_ns {j : Str} : scal .non (.str j) = true := rfl
theorem scal_sn {j : Str} : scal (.str j) .non = true := rfl
theorem scal_nb {j : Bool} : scal .non (.bl j) = true := rfl
theorem scal_bn {j : Bool} : scal (.bl j) .non = true := rfl
theorem cxOf_K {C : CXT} {P : Program} {w : World} {K : PySem.W.Frag} {mg : Str → Option Value} {base : Heap} {N : List Str} {q : Str} {sc : Scope} {f : Addr} {cd : Value} {A : Around} {o : List Env} {s : Shared} {H : Hp} {E : XK} : (cxOf C P w K mg base N q sc f cd A o s H E).K = K := rfl
local macro_rules | `(tactic| walk_at "rd") => `(tactic| simp only [L2.start, List.map_cons, List.map_nil, List.length_cons, List.length_nil, Nat.reduceAdd, Nat.reduceSub, Nat.zero_add, List.replicate, List.cons_append, List.nil_append,
  cxOf_K, tSeq, tAsg, gName, tVar, tC, tOp, tUn, rI, rI0, rU, tCB, tCons, tNil, tIfS, StX.tStar, sDPut, tDGet, tLstRg, tTupRg, tRg1, tRg2, tTest, tB, tAnd, tOr, tNot, tAndV, tOrV, tNotV, tIf, tRet, tRetN, tDrop, tNext, tBreak, tCont, tNever, tPar, tPar3, tChain3, decide_false, decide_true, rMin3, rMax3, tAug, ipI, tChain, gTup, gTupT, tBM, tBM0, rAppend, tyV_list, rMin, rMax, gCons, gNil, tTup, tLst, tCall, tCallS, WE, tTryV, wAsV, tMkV, tMkI, tMatch, tCase, tMeth, tMake, tProp, tFld, sFld, sFldAug, tRemX, L2.rAdd, L2.rSub, gSub,
  rSetL, rIxL, rIxT, rIxLT, rIxTT, CPowC, sizeLine_eq, Nat.reduceLeDiff, gt_iff_lt, ge_iff_le, Int.reduceMod, Int.reduceDiv, atI_0, atI_1, atI_2, atI_3, atI_4, atI_5, ixN_30, ixN_31, ixN_32, upd_same, HO.lst.injEq, HO.tup.injEq, HO.ins.injEq, Int.reduceLE, Int.reduceLT, rEq, rNe, sp0, sp1, sp2, sp3, sp4, sp5, tNoPart, tPart, tSl, scal_ii, scal_bb, scal_ss, scal_nn, scal_ni, scal_in, scal_ns, scal_sn, scal_nb, scal_bn, rRep, rCat, rReprD, rReprI, rLenQ, rSlL, rSlT, rEqF, rNeF,
  List.append_nil, List.getElem?_cons_zero, List.getElem?_cons_succ, List.set_cons_zero, List.set_cons_succ, List.set_nil,
  Option.some.injEq, V.int.injEq, V.bl.injEq, V.str.injEq, V.ref.injEq, V.ty.injEq, List.cons.injEq, and_true, true_and, exists_eq_left', exists_eq_left, exists_eq_right, exists_and_left, eq_self, exists_eq, exists_eq', and_assoc,
  decide_eq_true_eq, Bool.not_eq_true', Bool.not_eq_true, decide_eq_false_iff_not, Bool.false_eq_true, if_true, if_false, ite_true, ite_false, Bool.not_true, Bool.not_false, not_true_eq_false, not_false_eq_true, Bool.true_eq_false, ↓reduceIte,
  Int.reduceToNat, Int.reducePow, Int.reduceAdd, Int.reduceMul, Int.reduceNeg, Int.reduceSub, reduceCtorEq, false_and, and_false, exists_false, false_or, or_false])
local macro_rules | `(tactic| walk_at "ar") => `(tactic| first | omega | (have hB := big_200; first | omega | (unfold CMulB; omega) | (unfold CDivB; omega) | (unfold CPowW; omega)) | decide)
section
variable {P : Program} {w : World} {K : PySem.W.Frag} {mg : Str → Option Value} {base : Heap}
/-! ### checks -/
def sp_is_int (K : PySem.W.Frag) : Sp := sp1 fun a H Q _ => ∃ o, IntOr K H a o ∧ Q (.bl o.isSome) H
theorem sc_is_int : FnScope ["value"] ["value"] (defScope s_is_int) := ⟨rfl, rfl, rfl, by decide +kernel, rfl, by decide +kernel, by decide +kernel⟩
theorem ok_is_int (T : Txt P w K mg base) : GOk P w K mg base (L2.CX P w) 1 T.a_is_int T.fd_is_int ["value"] (sp_is_int K) := by
  refine FunD.gok T.F_is_int sc_is_int (fun vs H Q E h => ar1 h) (fun cdv A fr s H vs Q E hr hc h => ⟨_, PSs.nox (pss_one (ps_ret (pe_and (pe_callB (r := rIsi K) call_isi (by rfl) T.n_isinstance (by decide +kernel) (pa_cons (pv 0) (pa_cons (pe_bltn (v := .ty "int") (by rfl) T.n_int (by decide +kernel) rfl) pa_nil))) (pe_one (pe_not (pe_callB (r := rIsi K) call_isi (by rfl) T.n_isinstance (by decide +kernel) (pa_cons (pv 0) (pa_cons (pe_bltn (v := .ty "bool") (by rfl) T.n_bool (by decide +kernel) rfl) pa_nil)))))))), ?_⟩)
  obtain ⟨_, rfl, o, h, q⟩ := h
  walk_at "rd"
  cases o with
  | some n =>
    cases h
    refine ⟨.int n, .ty "int", .type "int", .type "int", true, rfl, .ty _, .base (.int _), kit_ty kit_int_int, true, rfl, iteT ?_⟩
    exact ⟨.int n, .ty "bool", .type "int", .type "bool", false, rfl, .ty _, .base (.int _), kit_ty kit_int_bool, false, rfl, q⟩
  | none =>
    obtain ⟨t, b1, b2, ty, k1, k2, e⟩ := h
    refine ⟨_, .ty "int", .type t, .type "int", b1, rfl, .ty _, ty, kit_ty k1, b1, rfl, ?_⟩
    cases b1 with
    | false => exact iteF q
    | true =>
      refine iteT ⟨_, .ty "bool", .type t, .type "bool", b2, rfl, .ty _, ty, kit_ty k2, b2, rfl, ?_⟩
      have e2 : (!b2) = false := by simpa using e
      rw [e2]
      exact q
def sp_is_whole (K : PySem.W.Frag) : Sp := sp3 fun a b c H Q _ => ∃ (o : Option Int) (lo hi : Int), IntOr K H a o ∧ b = .int lo ∧ c = .int hi ∧ Q (.bl (whole o lo hi)) H
theorem sc_is_whole : FnScope ["value", "low", "high"] ["value", "low", "high"] (defScope s_is_whole) := ⟨rfl, rfl, rfl, by decide +kernel, rfl, by decide +kernel, by decide +kernel⟩
theorem ok_is_whole (T : Txt P w K mg base) : GOk P w K mg base (L2.CX P w) 2 T.a_is_whole T.fd_is_whole ["value", "low", "high"] (sp_is_whole K) := by
  refine FunD.gok T.F_is_whole sc_is_whole (fun vs H Q E h => ar3 h) (fun cdv A fr s H vs Q E hr hc h => ⟨_, PSs.nox (pss_one (ps_ret (pe_and (pe_callG (ok_is_int T) hr hc (by rfl) T.g_is_int T.F_is_int.kp T.b_is_int .nil passL (pa_cons (pv 0) pa_nil)) (pe_one (pe_chain op_le op_le (pv 1) (pv 0) (pv 2)))))), ?_⟩)
  obtain ⟨_, _, _, rfl, o, lo, hi, h, rfl, rfl, q⟩ := h
  walk_at "rd"
  unfold sp_is_int
  walk_at "rd"
  refine ⟨o, h, ?_⟩
  cases o with
  | none => exact q
  | some n =>
    cases h
    have e : whole (some n) lo hi = (decide (lo ≤ n) && decide (n ≤ hi)) := by unfold whole; simp
    rw [e] at q
    simp only [Option.isSome_some]
    walk_at "rd"
    refine ite2 (fun h => ?_) (fun h => ?_)
    · rw [decide_eq_true h, Bool.true_and] at q
      exact q
    · rw [decide_eq_false h, Bool.false_and] at q
      exact q
/-! ### reaches -/
def sp_require_slots (K : PySem.W.Frag) : Sp := sp1 fun a H Q _ => ∃ (n : Int), a = .int n ∧ 1 ≤ n ∧ n ≤ 100 ∧ Q .non H
theorem sc_require_slots : FnScope ["value"] ["value"] (defScope s_require_slots) := ⟨rfl, rfl, rfl, by decide +kernel, rfl, by decide +kernel, by decide +kernel⟩
theorem ok_require_slots (T : Txt P w K mg base) : GOk P w K mg base (L2.CX P w) 3 T.a_require_slots T.fd_require_slots ["value"] (sp_require_slots K) := by
  refine FunD.gok T.F_require_slots sc_require_slots (fun vs H Q E h => ar1 h) (fun cdv A fr s H vs Q E hr hc h => ⟨_, PSs.nox (pss_one (ps_if (pt_not (pt_val (pe_callG (ok_is_whole T) hr hc (by rfl) T.g_is_whole T.F_is_whole.kp T.b_is_whole .nil passL (pa_cons (pv 0) (pa_cons pe_int (pa_cons (pe_glob (v := .int 100) (by rfl) T.c_MOST_SLOTS ⟨_, rfl⟩) pa_nil)))))) (pss_one ps_never) pss_nil)), ?_⟩)
  obtain ⟨_, rfl, n, rfl, h1, h2, q⟩ := h
  walk_at "rd"
  unfold sp_is_whole
  walk_at "rd"
  refine ⟨some n, rfl, ?_⟩
  have e : whole (some n) 1 100 = true := by unfold whole; exact decide_eq_true ⟨h1, h2⟩
  rw [e]
  exact iteTF q
def sp_require_length (K : PySem.W.Frag) : Sp := sp1 fun a H Q _ => ∃ (n : Int), a = .int n ∧ 1 ≤ n ∧ n ≤ 10 ^ 30 ∧ Q .non H
theorem sc_require_length : FnScope ["value"] ["value"] (defScope s_require_length) := ⟨rfl, rfl, rfl, by decide +kernel, rfl, by decide +kernel, by decide +kernel⟩
theorem ok_require_length (T : Txt P w K mg base) : GOk P w K mg base (L2.CX P w) 3 T.a_require_length T.fd_require_length ["value"] (sp_require_length K) := by
  refine FunD.gok T.F_require_length sc_require_length (fun vs H Q E h => ar1 h) (fun cdv A fr s H vs Q E hr hc h => ⟨_, PSs.nox (pss_one (ps_if (pt_not (pt_val (pe_callG (ok_is_whole T) hr hc (by rfl) T.g_is_whole T.F_is_whole.kp T.b_is_whole .nil passL (pa_cons (pv 0) (pa_cons pe_int (pa_cons (pe_glob (v := .int 1000000000000000000000000000000) (by rfl) T.c_MOST_LENGTH ⟨_, rfl⟩) pa_nil)))))) (pss_one ps_never) pss_nil)), ?_⟩)
  obtain ⟨_, rfl, n, rfl, h1, h2, q⟩ := h
  walk_at "rd"
  unfold sp_is_whole
  walk_at "rd"
  refine ⟨some n, rfl, ?_⟩
  have e : whole (some n) 1 1000000000000000000000000000000 = true := by unfold whole; exact decide_eq_true ⟨h1, by omega⟩
  rw [e]
  exact iteTF q
def sp_require_task (K : PySem.W.Frag) : Sp := sp2 fun a b H Q _ => ∃ (n s : Int), a = .int n ∧ b = .int s ∧ 1 ≤ n ∧ n ≤ 10 ^ 30 ∧ 1 ≤ s ∧ s ≤ 100 ∧ Q .non H
theorem sc_require_task : FnScope ["length", "slots"] ["length", "slots"] (defScope s_require_task) := ⟨rfl, rfl, rfl, by decide +kernel, rfl, by decide +kernel, by decide +kernel⟩
theorem ok_require_task (T : Txt P w K mg base) : GOk P w K mg base (L2.CX P w) 4 T.a_require_task T.fd_require_task ["length", "slots"] (sp_require_task K) := by
  refine FunD.gok T.F_require_task sc_require_task (fun vs H Q E h => ar2 h) (fun cdv A fr s H vs Q E hr hc h => ⟨_, PSs.nox (pss_cons (ps_expr (pe_callG (ok_require_length T) hr hc (by rfl) T.g_require_length T.F_require_length.kp T.b_require_length .nil passL (pa_cons (pv 0) pa_nil))) (pss_one (ps_expr (pe_callG (ok_require_slots T) hr hc (by rfl) T.g_require_slots T.F_require_slots.kp T.b_require_slots .nil passL (pa_cons (pv 1) pa_nil))))), ?_⟩)
  obtain ⟨_, _, rfl, n, s, rfl, rfl, h1, h2, h3, h4, q⟩ := h
  walk_at "rd"
  unfold sp_require_length sp_require_slots
  walk_at "rd"
  exact ⟨h1, by omega, h3, h4, q⟩
def sp_reach_of (K : PySem.W.Frag) : Sp := sp2 fun a b H Q _ => ∃ (s r : Int), a = .int s ∧ b = .int r ∧ 0 ≤ s ∧ s ≤ 102 ∧ -1 ≤ r ∧ r ≤ 2 ^ 110 ∧ Q (.int (Rz s r)) H
theorem Rz_big {s r : Int} (h1 : s ≤ 102) (h2 : r ≤ 2 ^ 112) : Rz s r < BIG := by
  unfold Rz
  have hB := big_200
  split
  · split <;> omega
  · have h := R_le s.toNat r.toNat
    have h3 : (((r.toNat + 1) ^ s.toNat : Nat) : Int) < BIG := big_pow (a := 113) (b := 102) (by decide) (by omega) (by omega)
    omega
theorem sc_reach_of : FnScope ["slots", "rounds", "found", "turn"] ["slots", "rounds"] (defScope s_reach_of) := ⟨rfl, rfl, rfl, by decide +kernel, rfl, by decide +kernel, by decide +kernel⟩
theorem ok_reach_of (T : Txt P w K mg base) : GOk P w K mg base (L2.CX P w) 1 T.a_reach_of T.fd_reach_of ["slots", "rounds"] (sp_reach_of K) := by
  refine FunD.gok T.F_reach_of sc_reach_of (fun vs H Q E h => ar2 h) (fun cdv A fr s H vs Q E hr hc h => ⟨_, PSs.nox (pss_cons (ps_set (i := 2) sc_reach_of.nd rfl (.inl rfl) pe_int) (pss_cons (ps_for PassesOwn.never rfl (pi_range2 (by rfl) T.n_range (pa_cons pe_int (pa_cons (pe_op op_add (pv 0) pe_int) pa_nil))) (pg_name (i := 3) sc_reach_of.nd rfl (.inl rfl)) (pss_one (ps_set (i := 2) sc_reach_of.nd rfl (.inl rfl) (pe_op op_divB (pe_op op_mulB (pv 2) (pe_op op_add (pv 1) (pv 3))) (pv 3))))) (pss_one (ps_ret (pv 2))))), ?_⟩)
  obtain ⟨_, _, rfl, s, r, rfl, rfl, h1, h2, h3, h4, q⟩ := h
  walk_at "rd"
  refine for_rng2 (lo := 1) (hi := s + 1) s.toNat (fun R q => by walk_at "rd"; exact q) (by omega) (by omega)
    (fun i σ H' => H' = H ∧ ∃ x, σ = [some (.int s), some (.int r), some (.int (Rz i r)), x]) ⟨rfl, none, by rw [show ((0 : Nat) : Int) = 0 by rfl, Rz_zero]⟩ ?_ ?_
  · rintro σ H' ⟨rfl, x, rfl⟩
    walk_at "rd"
    rw [show ((s.toNat : Nat) : Int) = s by omega]
    exact q
  · rintro i σ H' hi ⟨rfl, x, rfl⟩
    walk_at "rd"
    have b1 : Rz (i : Int) r < BIG := Rz_big (by omega) (by omega)
    have b2 := Rz_nonneg (i : Int) r
    have hB := big_200
    refine ⟨⟨⟨by omega, by omega⟩, by omega, by omega⟩, ⟨by omega, by omega⟩, ?_⟩
    rw [show (1 : Int) + (i : Int) = (i : Int) + 1 by omega, Rz_turn (by omega) h3]
    rfl
def sp_rounds_of (K : PySem.W.Frag) : Sp := sp2 fun a b H Q _ => ∃ (n s : Int), a = .int n ∧ b = .int s ∧ 1 ≤ n ∧ n ≤ 10 ^ 30 ∧ 1 ≤ s ∧ s ≤ 101 ∧ ∀ H', Ex H H' → Q (.int (rho n s)) H'
theorem sc_rounds_of : FnScope ["length", "slots", "low", "high", "middle"] ["length", "slots"] (defScope s_rounds_of) := ⟨rfl, rfl, rfl, by decide +kernel, rfl, by decide +kernel, by decide +kernel⟩
theorem ok_rounds_of (T : Txt P w K mg base) : GOk P w K mg base (L2.CX P w) 2 T.a_rounds_of T.fd_rounds_of ["length", "slots"] (sp_rounds_of K) := by
  refine FunD.gok T.F_rounds_of sc_rounds_of (fun vs H Q E h => ar2 h) (fun cdv A fr s H vs Q E hr hc h => ⟨_, PSs.nox (pss_cons (ps_asg (pe_tup (pa_cons (pe_un un_neg pe_int) (pa_cons pe_int pa_nil))) (pg_tupT (n := 2) rfl (pgs_cons (pg_name (i := 2) sc_rounds_of.nd rfl (.inl rfl)) (pgs_cons (pg_name (i := 3) sc_rounds_of.nd rfl (.inl rfl)) pgs_nil)))) (pss_cons (ps_while PassesOwn.never (pt_cmpR op_lt (pe_callG (ok_reach_of T) hr hc (by rfl) T.g_reach_of T.F_reach_of.kp T.b_reach_of .nil passL (pa_cons (pv 1) (pa_cons (pv 3) pa_nil))) (pv 0) (nomark _)) (pss_one (ps_par (i := 2) (j := 3) (by rfl) sc_rounds_of.nd rfl rfl (by decide) rfl rfl (pa_cons (pv 3) (pa_cons (pe_op op_mulB pe_int (pv 3)) pa_nil)) (by rfl)))) (pss_cons (ps_while PassesOwn.never (pt_cmpR op_gt (pe_op op_sub (pv 3) (pv 2)) pe_int (nomark _)) (pss_cons (ps_set (i := 4) sc_rounds_of.nd rfl (.inl rfl) (pe_op op_divB (pe_op op_add (pv 2) (pv 3)) pe_int)) (pss_one (ps_if (pt_cmpR op_lt (pe_callG (ok_reach_of T) hr hc (by rfl) T.g_reach_of T.F_reach_of.kp T.b_reach_of .nil passL (pa_cons (pv 1) (pa_cons (pv 4) pa_nil))) (pv 0) (nomark _)) (pss_one (ps_set (i := 2) sc_rounds_of.nd rfl (.inl rfl) (pv 4))) (pss_one (ps_set (i := 3) sc_rounds_of.nd rfl (.inl rfl) (pv 4))))))) (pss_one (ps_ret (pv 3)))))), ?_⟩)
  obtain ⟨_, _, rfl, n, s, rfl, rfl, h1, h2, h3, h4, q⟩ := h
  walk_at "rd"
  intro p hp
  refine ⟨fun m σ H' => Ex H H' ∧ ∃ low high x, σ = [some (.int n), some (.int s), some (.int low), some (.int high), x] ∧ -1 ≤ low ∧ low < high ∧ 1 ≤ high ∧ high ≤ 2 * n ∧ Rz s low < n ∧ m = (2 * n - high).toNat,
    ⟨_, exn hp, -1, 1, _, rfl, by omega, by omega, by omega, by omega, by rw [Rz_neg (by omega)]; omega, rfl⟩, ?_⟩
  rintro m σ H' ⟨eH, low, high, x, rfl, l1, l2, l3, l4, l5, rfl⟩
  walk_at "rd"
  unfold sp_reach_of
  walk_at "rd"
  refine ⟨by omega, by omega, by omega, by omega, ?_⟩
  refine ite2 (fun hlt => ?_) (fun hge => ?_)
  · have hg := Rz_gt (s := s) (r := high) h3 (by omega)
    refine ⟨fun σ' H'' => H'' = H' ∧ ∃ low' high' x', σ' = [some (.int n), some (.int s), some (.int low'), some (.int high'), x'] ∧ -1 ≤ low' ∧ low' < high' ∧ 1 ≤ high' ∧ high' ≤ 2 * n ∧ Rz s low' < n ∧ high < high',
      fun σ' H'' ⟨e, low', high', x', e1, e2, e3, e4, e5, e6, e7⟩ => ⟨_, ?_, by rw [e]; exact eH, low', high', x', e1, e2, e3, e4, e5, e6, rfl⟩, ?_, ?_⟩
    · omega
    · unfold CMulB; have hB := big_200; omega
    · refine ⟨rfl, high, 2 * high, x, rfl, by omega, by omega, by omega, by omega, hlt, by omega⟩
  · refine ⟨fun m σ H'' => H'' = H' ∧ ∃ low high x, σ = [some (.int n), some (.int s), some (.int low), some (.int high), x] ∧ -1 ≤ low ∧ low < high ∧ high ≤ 2 * n ∧ Rz s low < n ∧ n ≤ Rz s high ∧ m = (high - low).toNat,
      ⟨_, rfl, low, high, x, rfl, l1, l2, l4, l5, by omega, rfl⟩, ?_⟩
    rintro m σ H'' ⟨rfl, low, high, x, rfl, l1, l2, l4, l5, l6, rfl⟩
    walk_at "rd"
    refine ite2 (fun hlt => ?_) (fun hge => ?_)
    · refine ⟨fun σ' H' => H' = H'' ∧ ∃ low' high' x', σ' = [some (.int n), some (.int s), some (.int low'), some (.int high'), x'] ∧ -1 ≤ low' ∧ low' < high' ∧ high' ≤ 2 * n ∧ Rz s low' < n ∧ n ≤ Rz s high' ∧ high' - low' < high - low,
        fun σ' H' ⟨e, low', high', x', e1, e2, e3, e5, e6, e7, e8⟩ => ⟨_, ?_, e, low', high', x', e1, e2, e3, e5, e6, e7, rfl⟩, ?_⟩
      · omega
      · unfold CDivB
        refine ⟨by omega, by omega, by omega, by omega, by omega, ?_⟩
        refine ite2 (fun h => ?_) (fun h => ?_)
        · exact ⟨rfl, (low + high) / 2, high, _, rfl, by omega, by omega, by omega, h, l6, by omega⟩
        · exact ⟨rfl, low, (low + high) / 2, _, rfl, by omega, by omega, by omega, l5, by omega, by omega⟩
    · have e : rho n s = high := rho_eq h1 h3 (by omega) l6 (by rw [show high - 1 = low by omega]; exact l5)
      rw [e] at q
      exact q _ eH
theorem tz_lt_big {n s : Int} (hn : 1 ≤ n) (h2 : n ≤ 10 ^ 30) (hs : 1 ≤ s) (hs2 : s ≤ 101) : tz n s ≤ n * n := by
  have h0 := rho_nonneg n s
  have h1 := rho_lt (n := n) (s := s) hn hs
  have h3 := Rz_nonneg (s + 1) (rho n s - 1)
  have h4 : rho n s * n ≤ n * n := Int.mul_le_mul_of_nonneg_right (by omega) (by omega)
  unfold tz
  omega
theorem sq_big {n : Int} (hn : 0 ≤ n) (h2 : n ≤ 10 ^ 30) : n * n ≤ 10 ^ 60 := by
  calc n * n ≤ 10 ^ 30 * n := Int.mul_le_mul_of_nonneg_right h2 hn
    _ ≤ 10 ^ 30 * 10 ^ 30 := Int.mul_le_mul_of_nonneg_left h2 (by decide)
    _ = 10 ^ 60 := by decide
def sp_steps_with (K : PySem.W.Frag) : Sp := sp3 fun a b c H Q _ => ∃ (n s : Int), a = .int n ∧ b = .int s ∧ c = .int (rho n s) ∧ 1 ≤ n ∧ n ≤ 10 ^ 30 ∧ 1 ≤ s ∧ s ≤ 101 ∧ Q (.int (tz n s)) H
theorem sc_steps_with : FnScope ["length", "slots", "rounds"] ["length", "slots", "rounds"] (defScope s_steps_with) := ⟨rfl, rfl, rfl, by decide +kernel, rfl, by decide +kernel, by decide +kernel⟩
theorem ok_steps_with (T : Txt P w K mg base) : GOk P w K mg base (L2.CX P w) 2 T.a_steps_with T.fd_steps_with ["length", "slots", "rounds"] (sp_steps_with K) := by
  refine FunD.gok T.F_steps_with sc_steps_with (fun vs H Q E h => ar3 h) (fun cdv A fr s H vs Q E hr hc h => ⟨_, PSs.nox (pss_one (ps_ret (pe_op op_sub (pe_op op_mulB (pv 2) (pv 0)) (pe_callG (ok_reach_of T) hr hc (by rfl) T.g_reach_of T.F_reach_of.kp T.b_reach_of .nil passL (pa_cons (pe_op op_add (pv 1) pe_int) (pa_cons (pe_op op_sub (pv 2) pe_int) pa_nil)))))), ?_⟩)
  obtain ⟨_, _, _, rfl, n, s, rfl, rfl, rfl, h1, h2, h3, h4, q⟩ := h
  walk_at "rd"
  unfold sp_reach_of
  walk_at "rd"
  have r0 := rho_nonneg n s
  have r1 := rho_lt (n := n) (s := s) h1 h3
  exact ⟨by walk_at "ar", by omega, by omega, by omega, by omega, q⟩
def sp_least_of (K : PySem.W.Frag) : Sp := sp2 fun a b H Q _ => ∃ (n s : Int), a = .int n ∧ b = .int s ∧ 1 ≤ n ∧ n ≤ 10 ^ 30 ∧ 1 ≤ s ∧ s ≤ 101 ∧ ∀ H', Ex H H' → Q (.int (tz n s)) H'
theorem sc_least_of : FnScope ["length", "slots"] ["length", "slots"] (defScope s_least_of) := ⟨rfl, rfl, rfl, by decide +kernel, rfl, by decide +kernel, by decide +kernel⟩
theorem ok_least_of (T : Txt P w K mg base) : GOk P w K mg base (L2.CX P w) 3 T.a_least_of T.fd_least_of ["length", "slots"] (sp_least_of K) := by
  refine FunD.gok T.F_least_of sc_least_of (fun vs H Q E h => ar2 h) (fun cdv A fr s H vs Q E hr hc h => ⟨_, PSs.nox (pss_one (ps_ret (pe_callG (ok_steps_with T) hr hc (by rfl) T.g_steps_with T.F_steps_with.kp T.b_steps_with .nil passL (pa_cons (pv 0) (pa_cons (pv 1) (pa_cons (pe_callG (ok_rounds_of T) hr hc (by rfl) T.g_rounds_of T.F_rounds_of.kp T.b_rounds_of .nil passL (pa_cons (pv 0) (pa_cons (pv 1) pa_nil))) pa_nil)))))), ?_⟩)
  obtain ⟨_, _, rfl, n, s, rfl, rfl, h1, h2, h3, h4, q⟩ := h
  walk_at "rd"
  unfold sp_rounds_of sp_steps_with
  walk_at "rd"
  exact ⟨h1, h2, h3, h4, fun H' e => ⟨h1, by omega, h3, h4, q H' e⟩⟩
def sp_least_steps (K : PySem.W.Frag) : Sp := sp2 fun a b H Q _ => ∃ (n s : Int), a = .int n ∧ b = .int s ∧ 1 ≤ n ∧ n ≤ 10 ^ 30 ∧ 1 ≤ s ∧ s ≤ 100 ∧ ∀ H', Ex H H' → Q (.int (tz n s)) H'
theorem sc_least_steps : FnScope ["length", "slots"] ["length", "slots"] (defScope s_least_steps) := ⟨rfl, rfl, rfl, by decide +kernel, rfl, by decide +kernel, by decide +kernel⟩
theorem ok_least_steps (T : Txt P w K mg base) : GOk P w K mg base (L2.CX P w) 5 T.a_least_steps T.fd_least_steps ["length", "slots"] (sp_least_steps K) := by
  refine FunD.gok T.F_least_steps sc_least_steps (fun vs H Q E h => ar2 h) (fun cdv A fr s H vs Q E hr hc h => ⟨_, PSs.nox (pss_cons (ps_expr (pe_callG (ok_require_task T) hr hc (by rfl) T.g_require_task T.F_require_task.kp T.b_require_task .nil passL (pa_cons (pv 0) (pa_cons (pv 1) pa_nil)))) (pss_one (ps_ret (pe_callG (ok_least_of T) (hr.mono (by decide)) hc (by rfl) T.g_least_of T.F_least_of.kp T.b_least_of .nil passL (pa_cons (pv 0) (pa_cons (pv 1) pa_nil)))))), ?_⟩)
  obtain ⟨_, _, rfl, n, s, rfl, rfl, h1, h2, h3, h4, q⟩ := h
  walk_at "rd"
  unfold sp_require_task sp_least_of
  walk_at "rd"
  exact ⟨h1, h2, h3, h4, h1, h2, h3, by omega, q⟩
/-! ### draws -/
def Reel (H : Hp) (r : Addr) (m : Int) : Prop := ∃ a b c : Int, H r = some (.lst [.int a, .int b, .int c]) ∧ 0 ≤ a ∧ 0 ≤ b ∧ b ≤ 10 ^ 60 ∧ 0 ≤ c ∧ c ≤ m
theorem Reel.keep {H H' : Hp} {r : Addr} {m : Int} (h : Reel H r m) (k : ∀ o, H r = some o → H' r = some o) : Reel H' r m := by
  obtain ⟨a, b, c, e, q⟩ := h
  exact ⟨a, b, c, k _ e, q⟩
theorem Reel.ex {H H' : Hp} {r : Addr} {m : Int} (h : Reel H r m) (e : Ex H H') : Reel H' r m := h.keep fun o q => e r o q
theorem Reel.ne {H : Hp} {r p : Addr} {m : Int} (h : Reel H r m) (hp : H p = none) : p ≠ r := by
  obtain ⟨a, b, c, e, q⟩ := h
  exact (ne_of_none e hp).symm
theorem Reel.up {H : Hp} {r : Addr} {m m' : Int} (h : Reel H r m) (l : m ≤ m') : Reel H r m' := by
  obtain ⟨a, b, c, e, q1, q2, q3, q4, q5⟩ := h
  exact ⟨a, b, c, e, q1, q2, q3, q4, by omega⟩
theorem mo_none {H H' : Hp} {r p : Addr} {m : Int} (o : Mo r H H') (h : Reel H' r m) (hp : H' p = none) : H p = none := by
  cases q : H p with
  | none => rfl
  | some u => rw [o p u (h.ne hp) q] at hp; cases hp
def sp_L_wound (K : PySem.W.Frag) : Sp := sp2 fun x y H Q _ => ∃ (a : Addr) (ns : List Int) (k : Nat), x = .ref a ∧ y = .int k ∧ SqL K H a (ns.map V.int) ∧ ns.length ≤ 63 ∧ k ≤ 63 ∧ ∀ r H', H r = none → Ex H H' → Reel H' r 0 → Q (.ref r) H'
theorem sc_L_wound : FnScope ["_law_script", "_law_k", "_law_cell"] ["_law_script", "_law_k"] (defScope s_L_wound) := ⟨rfl, rfl, rfl, by decide +kernel, rfl, by decide +kernel, by decide +kernel⟩
theorem ok_L_wound (T : Txt P w K mg base) : GOk P w K mg base (L2.CX P w) 1 T.a_L_wound T.fd_L_wound ["_law_script", "_law_k"] (sp_L_wound K) := by
  refine FunD.gok T.F_L_wound sc_L_wound (fun vs H Q E h => ar2 h) (fun cdv A fr s H vs Q E hr hc h => ⟨_, PSs.nox (pss_cons (ps_set (i := 2) sc_L_wound.nd rfl (.inl rfl) pe_int) (pss_cons (ps_if (pt_cmpR op_lt (pv 1) (pe_callB (r := rLenQ K) call_lenQ (by rfl) T.n_len (by decide +kernel) (pa_cons (pv 0) pa_nil)) (nomark _)) (pss_one (ps_set (i := 2) sc_L_wound.nd rfl (.inl rfl) (pe_ix (r := rIxL K) ix_list (pv 0) (pv 1) (fun _ _ => rfl)))) pss_nil) (pss_one (ps_ret (pe_lst (pa_cons (pe_callB (call_max2 rfl) (by rfl) T.n_max (by decide +kernel) (pa_cons pe_int (pa_cons (pe_op op_sub (pv 2) (pe_op op_powC pe_int pe_int)) pa_nil))) (pa_cons (pe_op op_add (pe_op op_add (pe_op op_mulB (pe_op op_mod (pe_callTy call_intI (by rfl) T.n_int (by decide +kernel) (pa_cons (pv 2) pa_nil)) (pe_op op_add (pe_op op_powC pe_int pe_int) pe_int)) pe_int) (pe_op op_mulB pe_int (pv 1))) pe_int) (pa_cons pe_int pa_nil)))))))), ?_⟩)
  obtain ⟨_, _, rfl, a, ns, k, rfl, rfl, hS, hl, hk, q⟩ := h
  walk_at "rd"
  refine ⟨_, .inl hS, ?_⟩
  rw [List.length_map]
  refine ite2 (fun hlt => ?_) (fun _ => ?_)
  · have hlt' : k < ns.length := by omega
    refine ⟨_, hS, .int ns[k], atI_nat (by rw [List.getElem?_map, List.getElem?_eq_getElem hlt']; rfl), ns[k], rfl, ns[k], rfl, by walk_at "ar", by walk_at "ar", fun p hp => q p _ hp (exn hp) ⟨_, _, _, upd_same, ?_, ?_, ?_, ?_, ?_⟩⟩
    · split <;> omega
    all_goals omega
  · refine ⟨by walk_at "ar", by walk_at "ar", fun p hp => q p _ hp (exn hp) ⟨_, _, _, upd_same, ?_, ?_, ?_, ?_, ?_⟩⟩
    all_goals omega
def sp_L_spin (K : PySem.W.Frag) : Sp := sp2 fun x y H Q _ => ∃ (r : Addr) (n m : Int), x = .ref r ∧ y = .int n ∧ Reel H r m ∧ m ≤ 10 ^ 60 ∧ 1 ≤ n ∧ n ≤ 10 ^ 100 ∧ ∀ z H', 0 ≤ z → z < n → Mo r H H' → Reel H' r (m + 1) → Q (.int z) H'
theorem sc_L_spin : FnScope ["_law_reel", "_law_many", "_law_drawn", "_law_mixed"] ["_law_reel", "_law_many"] (defScope s_L_spin) := ⟨rfl, rfl, rfl, by decide +kernel, rfl, by decide +kernel, by decide +kernel⟩
theorem ok_L_spin (T : Txt P w K mg base) : GOk P w K mg base (L2.CX P w) 1 T.a_L_spin T.fd_L_spin ["_law_reel", "_law_many"] (sp_L_spin K) := by
  refine FunD.gok T.F_L_spin sc_L_spin (fun vs H Q E h => ar2 h) (fun cdv A fr s H vs Q E hr hc h => ⟨_, PSs.nox (pss_cons (ps_if (pt_cmpR op_gt (pe_ix ix_listT (pv 0) pe_int (fun _ _ => rfl)) pe_int (nomark _)) (pss_cons (ps_set (i := 2) sc_L_spin.nd rfl (.inl rfl) (pe_op op_mod (pe_callTy call_intI (by rfl) T.n_int (by decide +kernel) (pa_cons (pe_ix ix_listT (pv 0) pe_int (fun _ _ => rfl)) pa_nil)) (pv 1))) (pss_cons (ps_asg (pe_op op_divB (pe_ix ix_listT (pv 0) pe_int (fun _ _ => rfl)) (pv 1)) (pg_sub (pv 0) pe_int set_list)) (pss_one (ps_ret (pv 2))))) pss_nil) (pss_cons (ps_asg (pe_op op_add (pe_ix ix_listT (pv 0) pe_int (fun _ _ => rfl)) pe_int) (pg_sub (pv 0) pe_int set_list)) (pss_cons (ps_set (i := 3) sc_L_spin.nd rfl (.inl rfl) (pe_op op_mod (pe_callTy call_intI (by rfl) T.n_int (by decide +kernel) (pa_cons (pe_op op_powB (pe_op op_add (pe_ix ix_listT (pv 0) pe_int (fun _ _ => rfl)) (pe_op op_mulB pe_int (pe_ix ix_listT (pv 0) pe_int (fun _ _ => rfl)))) pe_int) pa_nil)) (pe_op op_add (pe_op op_powC pe_int pe_int) pe_int))) (pss_cons (ps_set (i := 3) sc_L_spin.nd rfl (.inl rfl) (pe_op op_mod (pe_callTy call_intI (by rfl) T.n_int (by decide +kernel) (pa_cons (pe_op op_powB (pe_op op_add (pv 3) (pe_op op_mulB pe_int (pe_ix ix_listT (pv 0) pe_int (fun _ _ => rfl)))) pe_int) pa_nil)) (pe_op op_add (pe_op op_powC pe_int pe_int) pe_int))) (pss_one (ps_ret (pe_op op_mod (pe_callTy call_intI (by rfl) T.n_int (by decide +kernel) (pa_cons (pe_op op_divB (pv 3) pe_int) pa_nil)) (pv 1)))))))), ?_⟩)
  obtain ⟨_, _, rfl, r, n, m, rfl, rfl, ⟨a, b, c, hr0, ha, hb, hb2, hc0, hcm⟩, hm, hn, hn2, q⟩ := h
  walk_at "rd"
  simp only [hr0]
  walk_at "rd"
  have hB := big_200
  refine ite2 (fun h => ?_) (fun h => ?_)
  · refine ⟨by omega, by unfold CDivB; omega, q _ _ (Int.emod_nonneg _ (by omega)) (Int.emod_lt_of_pos _ (by omega)) Mo.upd ⟨_, _, _, upd_same, Int.ediv_nonneg ha (by omega), hb, hb2, hc0, by omega⟩⟩
  · refine ⟨by walk_at "ar", by walk_at "ar", by walk_at "ar", ?_⟩
    generalize (b + 86028121 * (c + 1)) ^ 3 = z1
    refine ⟨by walk_at "ar", ?_⟩
    generalize (z1 % 1000000000000000000000000000000000000000063 + 67867967 * (c + 1)) ^ 3 = z2
    exact ⟨by walk_at "ar", by omega, q _ _ (Int.emod_nonneg _ (by omega)) (Int.emod_lt_of_pos _ (by omega)) Mo.upd ⟨_, _, _, upd_same, ha, hb, hb2, by omega, by omega⟩⟩
/-! ### what may be behind an operation -/
theorem inV_ints {h : Int} {ns : List Int} : inV (.int h) (ns.map V.int) = decide (h ∈ ns) := by
  induction ns with
  | nil => simp [inV]
  | cons n ns ih =>
    have e : eqV (.int n) (.int h) = decide (n = h) := rfl
    show (eqV (.int n) (.int h) || inV (.int h) (ns.map V.int)) = _
    rw [ih, e]
    by_cases q : n = h
    · subst q; simp
    · have q2 : ¬ h = n := fun z => q z.symm
      simp [q, q2]
theorem flat_ints {ns : List Int} : (ns.map V.int).all flatV = true := by
  induction ns with
  | nil => rfl
  | cons n ns ih => simp only [List.map_cons, List.all_cons, ih, Bool.and_true]; rfl
theorem ok_facts {x : StT} (h : okS x = true) : 0 ≤ x.1 ∧ x.1 < 6 ∧ 0 ≤ x.2.2 ∧ x.2.2 < 7 ∧ x.2.1.length ≤ 6 ∧ (∀ k ∈ x.2.1, 0 ≤ k ∧ k < 6) ∧ x.2.1.Pairwise (· < ·) := by
  have e : decS (codeS x) = x := of_decide_eq_true h
  rw [← e]
  generalize codeS x = c
  have hp : (((List.range 6).filter fun i => (c / 42).testBit i)).Pairwise (· < ·) := List.Pairwise.filter _ List.pairwise_lt_range
  refine ⟨by show (0 : Int) ≤ ((c % 6 : Nat) : Int); omega, by show ((c % 6 : Nat) : Int) < 6; omega, by show (0 : Int) ≤ ((c / 6 % 7 : Nat) : Int); omega, by show ((c / 6 % 7 : Nat) : Int) < 7; omega, ?_, ?_, ?_⟩
  · show (((List.range 6).filter fun i => (c / 42).testBit i).map (fun (i : Nat) => (i : Int))).length ≤ 6
    rw [List.length_map]
    exact List.length_filter_le _ _
  · intro k hk
    obtain ⟨i, hi, rfl⟩ := List.mem_map.mp hk
    have := List.mem_range.mp (List.mem_filter.mp hi).1
    omega
  · show (((List.range 6).filter fun i => (c / 42).testBit i).map (fun (i : Nat) => (i : Int))).Pairwise (· < ·)
    rw [List.pairwise_map]
    exact hp.imp fun h => by omega
theorem nextL_eq (n s hd bk : Int) (ks : List Int) : nextL n s (hd, ks, bk) = (((List.range (n - hd - 1).toNat).map fun (i : Nat) => (((hd + (1 + (i : Int)), ks, bk) : StT), 1 + (i : Int))) ++ (if hd ∉ ks ∧ (ks.length : Int) < s then [((hd, insK hd ks, bk), (0 : Int))] else [])) ++ ((List.range ks.length).flatMap fun (i : Nat) => [(((ks.getD i 0, ks, bk) : StT), (0 : Int)), (((hd, ks.take i ++ ks.drop (i + 1), bk) : StT), (0 : Int))]) ++ (if bk < n ∧ hd = n - 1 - bk then [((hd, ks, bk + 1), (0 : Int))] else []) := rfl
theorem insK_perm (h : Int) : ∀ ks : List Int, (insK h ks).Perm (ks ++ [h])
  | [] => .refl _
  | k :: ks => by
    unfold insK
    split
    · exact (List.perm_append_comm (l₁ := k :: ks) (l₂ := [h])).symm
    · exact (insK_perm h ks).cons k
theorem insK_srt {h : Int} : ∀ {ks : List Int}, ks.Pairwise (· < ·) → (insK h ks).Pairwise (· ≤ ·)
  | [], _ => List.pairwise_singleton _ _
  | k :: ks, hp => by
    obtain ⟨h1, h2⟩ := List.pairwise_cons.mp hp
    unfold insK
    split
    · rename_i hk
      refine List.pairwise_cons.mpr ⟨fun y hy => ?_, List.pairwise_cons.mpr ⟨fun y hy => Int.le_of_lt (h1 y hy), h2.imp Int.le_of_lt⟩⟩
      rcases List.mem_cons.mp hy with rfl | hy
      · exact Int.le_of_lt hk
      · have := h1 y hy; omega
    · rename_i hk
      refine List.pairwise_cons.mpr ⟨fun y hy => ?_, insK_srt h2⟩
      rcases List.mem_append.mp ((insK_perm h ks).mem_iff.mp hy) with hy | hy
      · exact Int.le_of_lt (h1 y hy)
      · rw [List.mem_singleton.mp hy]; omega
theorem insK_eq {h : Int} {ks zs : List Int} (hp : ks.Pairwise (· < ·)) (p : zs.Perm (ks ++ [h])) (s : zs.Pairwise (· ≤ ·)) : zs = insK h ks :=
  List.Perm.eq_of_pairwise (le := (· ≤ ·)) (fun a b _ _ h1 h2 => Int.le_antisymm h1 h2) s (insK_srt hp) (p.trans (insK_perm h ks).symm)
/-- a list of pairs: a state, its steps -/
def NxA (H : Hp) (xs : List V) (ys : List (StT × Int)) : Prop := xs.length = ys.length ∧ ∀ (i : Nat) (y : StT × Int), ys[i]? = some y → ∃ a p : Addr, xs[i]? = some (V.ref a) ∧ H a = some (.tup [.ref p, .int y.2]) ∧ StV H p y.1
theorem NxA.nil {H : Hp} : NxA H [] [] := ⟨rfl, fun i y h => by cases h⟩
theorem NxA.ex {H H' : Hp} {xs : List V} {ys : List (StT × Int)} (e : Ex H H') (h : NxA H xs ys) : NxA H' xs ys := ⟨h.1, fun i y hy => by
  obtain ⟨a, p, h1, h2, h3⟩ := h.2 i y hy
  exact ⟨a, p, h1, e _ _ h2, h3.ex e⟩⟩
theorem StV.mo {H H' : Hp} {r p : Addr} {x : StT} (l : ∀ xs, H r ≠ some (.tup xs)) (m : Mo r H H') (h : StV H p x) : StV H' p x := by
  obtain ⟨q, h1, h2⟩ := h
  exact ⟨q, m _ _ (fun z => l _ (by rw [← z]; exact h1)) h1, m _ _ (fun z => l _ (by rw [← z]; exact h2)) h2⟩
theorem NxA.mo {H H' : Hp} {r : Addr} {xs : List V} {ys : List (StT × Int)} (l : ∀ xs, H r ≠ some (.tup xs)) (m : Mo r H H') (h : NxA H xs ys) : NxA H' xs ys := ⟨h.1, fun i y hy => by
  obtain ⟨a, p, h1, h2, h3⟩ := h.2 i y hy
  exact ⟨a, p, h1, m _ _ (fun z => l _ (by rw [← z]; exact h2)) h2, h3.mo l m⟩⟩
theorem NxA.snoc {H : Hp} {xs : List V} {ys : List (StT × Int)} {a p : Addr} {y : StT × Int} (h : NxA H xs ys) (ha : H a = some (.tup [.ref p, .int y.2])) (hp : StV H p y.1) : NxA H (xs ++ [.ref a]) (ys ++ [y]) := by
  refine ⟨by rw [List.length_append, List.length_append, h.1]; rfl, fun i z hz => ?_⟩
  by_cases hl : i < ys.length
  · rw [List.getElem?_append_left hl] at hz
    obtain ⟨b, q, h1, h2, h3⟩ := h.2 i z hz
    exact ⟨b, q, by rw [List.getElem?_append_left (by rw [h.1]; exact hl)]; exact h1, h2, h3⟩
  · have hi : i = ys.length := by
      have := (List.getElem?_eq_some_iff.mp hz).1
      rw [List.length_append] at this
      have : i < ys.length + 1 := this
      omega
    subst hi
    rw [List.getElem?_append_right (Nat.le_refl _), Nat.sub_self] at hz
    cases hz
    exact ⟨a, p, by rw [← h.1]; simp, ha, hp⟩
theorem nx_push {H H' H2 : Hp} {L a p : Addr} {xs : List V} {ys : List (StT × Int)} {y : StT × Int} (eb : Ex H H') (nL : H L = none) (hL : H' L = some (.lst xs)) (nx : NxA H' xs ys) (e : Ex H' H2) (ha : H2 a = some (.tup [.ref p, .int y.2])) (hp : StV H2 p y.1) :
    Ex H (upd H2 L (.lst (xs ++ [.ref a]))) ∧ NxA (upd H2 L (.lst (xs ++ [.ref a]))) (xs ++ [.ref a]) (ys ++ [y]) := by
  have hL2 := e _ _ hL
  have nt : ∀ zs, H2 L ≠ some (.tup zs) := fun zs z => by rw [hL2] at z; cases z
  have m : Mo L H2 (upd H2 L (.lst (xs ++ [.ref a]))) := Mo.upd
  refine ⟨Mo.ex_new (eb.trans e) nL Mo.upd, ((nx.ex e).mo nt m).snoc (p := p) ?_ (hp.mo nt m)⟩
  rw [upd_ne (fun z => nt _ (by rw [← z]; exact ha))]
  exact ha
theorem lc_rng2N {σ : L2.St} {H : Hp} {ta : TA} {te : TE} {j : Nat} {vs : List Nat} {Q : VK} {n : Nat} {lo hi : Int} (f : Nat → StT × Int) (ha : ∀ R, R [.int lo, .int hi] H → ta σ H R) (hn : n ≤ 1000) (hnn : (hi - lo).toNat = n) (hb : -100 ≤ lo ∧ lo ≤ 100 ∧ -100 ≤ hi ∧ hi ≤ 100) (hw : ∀ x, wipe ((wipe σ vs).set j (some x)) vs = wipe σ vs)
    (he : ∀ (i : Nat) H1, i < n → Ex H H1 → ∀ R : VK, (∀ a p H2, Ex H1 H2 → H2 a = some (.tup [.ref p, .int (f i).2]) → StV H2 p (f i).1 → R (.ref a) H2) → te ((wipe σ vs).set j (some (.int (lo + (i : Int))))) H1 R)
    (k : ∀ L xs H', Ex H H' → H L = none → H' L = some (.lst xs) → NxA H' xs ((List.range n).map f) → Q (.ref L) H') : tLc (iRng2 ta) (gName j) tYes te vs σ H Q := by
  refine ha _ ⟨lo, hi, rfl, ⟨by omega, by omega, by omega, by omega⟩, fun D hD => ?_⟩
  rw [hnn]
  refine lc_range (lo := lo) (n := n) (fun i H' => Ex H H' ∧ ∃ xs, H' D = some (.lst xs) ∧ NxA H' xs ((List.range i).map f)) ⟨exn hD, [], upd_same, .nil⟩ (fun i H' hi p => ⟨hw _, ?_⟩) (fun H' p => ?_)
  · obtain ⟨e, xs, hd, nx⟩ := p
    unfold tYes
    show (if true = true then _ else _)
    rw [if_pos rfl]
    have lx : xs.length = i := by rw [nx.1, List.length_map, List.length_range]
    refine he i H' hi e _ fun a p H2 e2 ha hp => ⟨xs, e2 _ _ hd, by rw [lx, sizeLine_eq]; omega, ?_⟩
    obtain ⟨g1, g2⟩ := nx_push (y := f i) e hD hd nx e2 ha hp
    refine ⟨g1, _, upd_same, ?_⟩
    rw [List.range_succ, List.map_append]
    exact g2
  · obtain ⟨e, xs, hd, nx⟩ := p
    exact k D xs H' e hD hd nx
theorem catA_mk {H : Hp} {Q : VK} {a b : Addr} {xs ys : List V} (ha : H a = some (.tup xs)) (hb : H b = some (.tup ys)) (hl : xs.length + ys.length ≤ 1000) (k : ∀ r H', Ex H H' → H' r = some (.tup (xs ++ ys)) → Q (.ref r) H') : rCatA K (.ref a) (.ref b) H Q :=
  ⟨a, b, xs, ys, rfl, rfl, sq_t ha, sq_t hb, by rw [sizeLine_eq]; omega, fun z => k b H (fun _ _ h => h) (by rw [z]; exact hb), fun _ z2 => k a H (fun _ _ h => h) (by rw [z2, List.append_nil]; exact ha), fun _ _ p hp => k p _ (exn hp) upd_same⟩
theorem slT_mk {H : Hp} {Q : VK} {a : Addr} {xs : List V} {lo hi : Option Int} (ha : H a = some (.tup xs)) (hw : ¬ (HT.sIx xs.length 0 lo = 0 ∧ HT.sIx xs.length xs.length hi = xs.length)) {ys : List V} (hy : cutV xs lo hi = ys) (k : ∀ r H', Ex H H' → H' r = some (.tup ys) → Q (.ref r) H') : rSlT K (.ref a) lo hi H Q :=
  ⟨a, xs, rfl, sq_t ha, hw, fun p hp => k p _ (exn hp) (by rw [hy]; exact upd_same)⟩
theorem cut_lo {xs : List V} {i : Nat} (h : i ≤ xs.length) : cutV xs none (some (i : Int)) = xs.take i := by
  unfold cutV
  rw [HT.sIx_none, HT.sIx_nat, Nat.min_eq_left h, List.drop_zero, Nat.sub_zero]
theorem cut_hi {xs : List V} {i : Nat} (h : i < xs.length) : cutV xs (some ((i : Int) + 1)) none = xs.drop (i + 1) := by
  unfold cutV
  rw [HT.sIx_none, show ((i : Int) + 1) = ((i + 1 : Nat) : Int) by omega, HT.sIx_nat, Nat.min_eq_left h, List.take_of_length_le (by rw [List.length_drop]; exact Nat.le_refl _)]
def sp_L_next (K : PySem.W.Frag) : Sp := sp3 fun x y z H Q _ => ∃ (n s : Int) (p : Addr) (st : StT), x = .int n ∧ y = .int s ∧ z = .ref p ∧ StV H p st ∧ 1 ≤ n ∧ n ≤ 6 ∧ 1 ≤ s ∧ s ≤ 3 ∧ okS st = true ∧
  ∀ L xs H', Ex H H' → H L = none → H' L = some (.lst xs) → NxA H' xs (nextL n s st) → Q (.ref L) H'
theorem sc_L_next : FnScope ["_law_n", "_law_s", "_law_at", "_law_hand", "_law_kept", "_law_backs", "_law_found", "_law_spot", "_law_state", "_law_number"] ["_law_n", "_law_s", "_law_at"] (defScope s_L_next) := ⟨rfl, rfl, rfl, by decide +kernel, rfl, by decide +kernel, by decide +kernel⟩
theorem ok_L_next (T : Txt P w K mg base) : GOk P w K mg base (L2.CX P w) 1 T.a_L_next T.fd_L_next ["_law_n", "_law_s", "_law_at"] (sp_L_next K) := by
  refine FunD.gok T.F_L_next sc_L_next (fun vs H Q E h => ar3 h) (fun cdv A fr s H vs Q E hr hc h => ⟨_, PSs.nox (Evl.pss_cut (ps_asg (pv 2) (pg_tupT (n := 3) rfl (pgs_cons (pg_name (i := 3) sc_L_next.nd rfl (.inr rfl)) (pgs_cons (pg_name (i := 4) sc_L_next.nd rfl (.inr rfl)) (pgs_cons (pg_name (i := 5) sc_L_next.nd rfl (.inr rfl)) pgs_nil))))) (Evl.pss_cut (ps_setLc (i := 6) (own := [("_law_number", 9)]) rfl sc_L_next.nd rfl rfl (sw_true rfl rfl rfl (by decide +kernel)) (pi_range2 (by rfl) T.n_range (pa_cons pe_int (pa_cons (pe_op op_sub (pv 0) (pv 3)) pa_nil))) (blkOk_by (N := ["_law_n", "_law_s", "_law_at", "_law_hand", "_law_kept", "_law_backs", "_law_found", "_law_spot", "_law_state", "_law_number"]) (sc := defScope s_L_next) (by decide +kernel)) (fun _ _ _ _ _ => (pg_name (i := 9) sc_L_next.nd rfl (Or.inl rfl))) (fun _ _ _ _ _ => pts_nil) (fun _ _ _ _ _ => (pe_tup (pa_cons (pe_tup (pa_cons (pe_op op_add (pv 3) (pv 9)) (pa_cons (pv 4) (pa_cons (pv 5) pa_nil)))) (pa_cons (pv 9) pa_nil))))) (Evl.pss_cut (ps_if (PW.pt (pw_and (pt_cmpR (r := rIn K true) op_notIn_seq (pv 3) (pv 4) (by rfl)) (pw_and1 (pt_cmpR op_lt (pe_callB (r := rLenQ K) call_lenQ (by rfl) T.n_len (by decide +kernel) (pa_cons (pv 4) pa_nil)) (pv 1) (nomark _))))) (pss_one (ps_expr (pe_bm PySem.F.plainAttrs_list PySem.F.slot_list_append PySem.F.type_list_append mt_append (pv 6) (pa_cons (pe_tup (pa_cons (pe_tup (pa_cons (pv 3) (pa_cons (pe_callTy call_tuple_of (by rfl) T.n_tuple (by decide +kernel) (pa_cons (pe_callB (r := rSortedTI K) cr_sortedTI (by rfl) T.n_sorted (by decide +kernel) (pa_cons (pe_op (r := rCatA K) op_catA (pv 4) (pe_tup (pa_cons (pv 3) pa_nil))) pa_nil)) pa_nil)) (pa_cons (pv 5) pa_nil)))) (pa_cons pe_int pa_nil))) pa_nil)))) pss_nil) (Evl.pss_cut (ps_for PassesOwn.never rfl (pi_enumT (by rfl) T.n_enumerate (pa_cons (pv 4) pa_nil)) (pg_tupT (n := 2) rfl (pgs_cons (pg_name (i := 7) sc_L_next.nd rfl (.inl rfl)) (pgs_cons (pg_name (i := 8) sc_L_next.nd rfl (.inl rfl)) pgs_nil))) (pss_cons (ps_expr (pe_bm PySem.F.plainAttrs_list PySem.F.slot_list_append PySem.F.type_list_append mt_append (pv 6) (pa_cons (pe_tup (pa_cons (pe_tup (pa_cons (pv 8) (pa_cons (pv 4) (pa_cons (pv 5) pa_nil)))) (pa_cons pe_int pa_nil))) pa_nil))) (pss_one (ps_expr (pe_bm PySem.F.plainAttrs_list PySem.F.slot_list_append PySem.F.type_list_append mt_append (pv 6) (pa_cons (pe_tup (pa_cons (pe_tup (pa_cons (pv 3) (pa_cons (pe_op (r := rCatA K) op_catA (pe_slice (r := rSlT K) sl_tup (pv 4) po_none (po_some (pv 7))) (pe_slice (r := rSlT K) sl_tup (pv 4) (po_some (pe_op op_add (pv 7) pe_int)) po_none)) (pa_cons (pv 5) pa_nil)))) (pa_cons pe_int pa_nil))) pa_nil)))))) (Evl.pss_cut (ps_if (PW.pt (pw_and (pt_cmpR op_lt (pv 5) (pv 0) (nomark _)) (pw_and1 (pt_cmpR op_eq (pv 3) (pe_op op_sub (pe_op op_sub (pv 0) pe_int) (pv 5)) (nomark _))))) (pss_one (ps_expr (pe_bm PySem.F.plainAttrs_list PySem.F.slot_list_append PySem.F.type_list_append mt_append (pv 6) (pa_cons (pe_tup (pa_cons (pe_tup (pa_cons (pv 3) (pa_cons (pv 4) (pa_cons (pe_op op_add (pv 5) pe_int) pa_nil)))) (pa_cons pe_int pa_nil))) pa_nil)))) pss_nil) (pss_one (ps_ret (pv 6)))))))), ?_⟩)
  obtain ⟨_, _, _, rfl, n, s, p, ⟨hd, ks, bk⟩, rfl, rfl, rfl, ⟨q0, hp, hq⟩, n1, n6, s1, s3, ok, q⟩ := h
  obtain ⟨f1, f2, f3, f4, f5, f6, f7⟩ := ok_facts ok
  dsimp only at f1 f2 f3 f4 f5 f6 f7 hp hq
  refine Evl.q_cut (M := fun σ' H' => σ' = [some (.int n), some (.int s), some (.ref p), some (.int hd), some (.ref q0), some (.int bk), none, none, none, none] ∧ H = H') ?_ ?_
  · walk_at "rd"
    simp only [hp]
    walk_at "rd"
  rintro σ _ ⟨rfl, rfl⟩
  refine Evl.q_cut (M := fun σ' H' => ∃ L xs, σ' = [some (.int n), some (.int s), some (.ref p), some (.int hd), some (.ref q0), some (.int bk), some (.ref L), none, none, none] ∧ Ex H H' ∧ H L = none ∧ H' L = some (.lst xs) ∧ NxA H' xs ((List.range (n - hd - 1).toNat).map fun (i : Nat) => (((hd + (1 + (i : Int)), ks, bk) : StT), 1 + (i : Int)))) ?_ ?_
  · walk_at "rd"
    refine lc_rng2N (lo := 1) (hi := n - hd) (n := (n - hd - 1).toNat) (fun i => (((hd + (1 + (i : Int)), ks, bk) : StT), 1 + (i : Int))) (fun R q => by walk_at "rd"; exact q) (by omega) (by omega) (by omega) (fun _ => rfl) (fun i H1 hi e R kk => ?_) fun L xs H' e nL hL nx => ⟨L, rfl, e, nL, xs, hL, nx⟩
    simp only [wipe]
    walk_at "rd"
    intro p1 hp1 p2 hp2
    have k1 := exn (o := .tup [V.int (hd + (1 + (i : Int))), V.ref q0, V.int bk]) hp1
    have k2 := exn (o := .tup [V.ref p1, V.int (1 + (i : Int))]) hp2
    exact kk p2 p1 _ (k1.trans k2) upd_same ⟨q0, k2 _ _ upd_same, k2 _ _ (k1 _ _ (e _ _ hq))⟩
  rintro σ H1 ⟨L, xs, rfl, e1, nL, hL, nx⟩
  refine Evl.q_cut (M := fun σ' H' => ∃ xs, σ' = [some (.int n), some (.int s), some (.ref p), some (.int hd), some (.ref q0), some (.int bk), some (.ref L), none, none, none] ∧ Ex H H' ∧ H' L = some (.lst xs) ∧ NxA H' xs (((List.range (n - hd - 1).toNat).map fun (i : Nat) => (((hd + (1 + (i : Int)), ks, bk) : StT), 1 + (i : Int))) ++ (if hd ∉ ks ∧ (ks.length : Int) < s then [((hd, insK hd ks, bk), (0 : Int))] else []))) ?_ ?_
  · walk_at "rd"
    have hq1 := e1 _ _ hq
    have lx : xs.length ≤ 10 := by rw [nx.1, List.length_map, List.length_range]; omega
    have keep : ¬ (hd ∉ ks ∧ (ks.length : Int) < s) → Ex H H1 ∧ ∃ x, H1 L = some (HO.lst x) ∧ NxA H1 x (((List.range (n - hd - 1).toNat).map fun (i : Nat) => (((hd + (1 + (i : Int)), ks, bk) : StT), 1 + (i : Int))) ++ (if hd ∉ ks ∧ (ks.length : Int) < s then [((hd, insK hd ks, bk), (0 : Int))] else [])) := fun h => by
      refine ⟨e1, xs, hL, ?_⟩
      rw [if_neg h, List.append_nil]
      exact nx
    refine ⟨q0, _, rfl, .inr (sq_t hq1), rfl, flat_ints, _, rfl, ?_⟩
    rw [if_pos rfl, inV_ints]
    refine ite2 (fun h => ⟨_, .inr (sq_t hq1), ite2 (fun h2 => ?_) fun h2 => keep fun z => h2 (by rw [List.length_map]; exact z.2)⟩) fun h => keep fun z => h (by rw [decide_eq_false z.1]; rfl)
    have hnk : hd ∉ ks := fun z => by rw [decide_eq_true z] at h; cases h
    rw [List.length_map] at h2
    refine ⟨⟨xs, sq_l hL⟩, fun p1 hp1 => ?_⟩
    have k1 := exn (o := .tup [V.int hd]) hp1
    refine catA_mk (k1 _ _ hq1) upd_same (by rw [List.length_map]; show _ + 1 ≤ 1000; omega) fun r H2 e2 hr2 => ?_
    refine ⟨r, ks ++ [hd], rfl, sq_t (by rw [hr2, List.map_append]; rfl), fun zs p2 pe ps hp2 => ?_⟩
    have k2 := exn (o := .lst (zs.map V.int)) hp2
    refine ⟨p2, rfl, _, .inl ⟨sq_l upd_same, fun l hl p3 hp3 p4 hp4 => ?_⟩⟩
    have k3 := exn (o := .tup (zs.map V.int)) hl
    have k4 := exn (o := .tup [V.int hd, V.ref l, V.int bk]) hp3
    have k5 := exn (o := .tup [V.ref p3, V.int 0]) hp4
    have eA := k1.trans (e2.trans (k2.trans (k3.trans (k4.trans k5))))
    obtain ⟨g1, g2⟩ := nx_push (y := (((hd, insK hd ks, bk) : StT), (0 : Int))) e1 nL hL nx eA upd_same ⟨l, k5 _ _ upd_same, by rw [← insK_eq f7 pe ps]; exact k5 _ _ (k4 _ _ upd_same)⟩
    refine ⟨xs, eA _ _ hL, by omega, g1, ?_⟩
    rw [if_pos ⟨hnk, h2⟩]
    exact g2
  rintro σ H2 ⟨xs, rfl, e2, hL2, nx2⟩
  have lA : (((List.range (n - hd - 1).toNat).map fun (i : Nat) => (((hd + (1 + (i : Int)), ks, bk) : StT), 1 + (i : Int))) ++ (if hd ∉ ks ∧ (ks.length : Int) < s then [((hd, insK hd ks, bk), (0 : Int))] else [])).length ≤ 20 := by
    rw [List.length_append, List.length_map, List.length_range]
    split
    · show _ + 1 ≤ 20; omega
    · show _ + 0 ≤ 20; omega
  have flen : ∀ m : Nat, ((List.range m).flatMap fun (i : Nat) => [(((ks.getD i 0, ks, bk) : StT), (0 : Int)), (((hd, ks.take i ++ ks.drop (i + 1), bk) : StT), (0 : Int))]).length = 2 * m := fun m => by
    rw [List.length_flatMap]
    induction m with
    | zero => rfl
    | succ m ih => rw [List.range_succ, List.map_append, List.sum_append, ih]; show _ + (2 + 0) = _; omega
  generalize eA : ((List.range (n - hd - 1).toNat).map fun (i : Nat) => (((hd + (1 + (i : Int)), ks, bk) : StT), 1 + (i : Int))) ++ (if hd ∉ ks ∧ (ks.length : Int) < s then [((hd, insK hd ks, bk), (0 : Int))] else []) = A at *
  refine Evl.q_cut (M := fun σ' H' => ∃ xs x7 x8, σ' = [some (.int n), some (.int s), some (.ref p), some (.int hd), some (.ref q0), some (.int bk), some (.ref L), x7, x8, none] ∧ Ex H H' ∧ H' L = some (.lst xs) ∧ NxA H' xs (A ++ (List.range ks.length).flatMap fun (i : Nat) => [(((ks.getD i 0, ks, bk) : StT), (0 : Int)), (((hd, ks.take i ++ ks.drop (i + 1), bk) : StT), (0 : Int))])) ?_ ?_
  · walk_at "rd"
    simp only [tFor_enumT]
    walk_at "rd"
    refine ⟨_, sq_t (e2 _ _ hq), forET_in (xs := ks.map V.int) (fun i σ' H' => ∃ xs x7 x8, σ' = [some (.int n), some (.int s), some (.ref p), some (.int hd), some (.ref q0), some (.int bk), some (.ref L), x7, x8, none] ∧ Ex H H' ∧ H' L = some (.lst xs) ∧ NxA H' xs (A ++ (List.range i).flatMap fun (i : Nat) => [(((ks.getD i 0, ks, bk) : StT), (0 : Int)), (((hd, ks.take i ++ ks.drop (i + 1), bk) : StT), (0 : Int))])) ⟨xs, none, none, rfl, e2, hL2, by rw [List.range_zero, List.flatMap_nil, List.append_nil]; exact nx2⟩ ?_ ?_ ?_⟩
    · rintro i σ' H' _ ⟨_, _, _, _, e, _⟩
      exact sq_t (e _ _ hq)
    · rintro σ' H' ⟨xs, x7, x8, rfl, e, hL', nx'⟩
      refine ⟨xs, x7, x8, rfl, e, hL', ?_⟩
      rw [List.length_map] at nx'
      exact nx'
    rintro i x T σ' H' hx ⟨xs, x7, x8, rfl, e, hL', nx'⟩ hT
    obtain ⟨hi, rfl⟩ : ∃ hi : i < ks.length, x = .int ks[i] := by
      rw [List.getElem?_map] at hx
      cases hz : ks[i]? with
      | none => rw [hz] at hx; cases hx
      | some z =>
        rw [hz] at hx
        cases hx
        exact ⟨(List.getElem?_eq_some_iff.mp hz).1, by rw [(List.getElem?_eq_some_iff.mp hz).2]⟩
    have kT := exn (o := .tup [V.int (i : Nat), V.int ks[i]]) hT
    have lm : (ks.map V.int).length = ks.length := List.length_map _
    have lx : xs.length ≤ 100 := by rw [nx'.1, List.length_append, flen]; omega
    have gd : ks.getD i 0 = ks[i] := by rw [List.getD_eq_getElem?_getD, List.getElem?_eq_getElem hi]; rfl
    walk_at "rd"
    refine ⟨⟨xs, sq_l (kT _ _ hL')⟩, fun p1 h1 p2 h2 => ?_⟩
    have k1 := exn (o := .tup [V.int ks[i], V.ref q0, V.int bk]) h1
    have k2 := exn (o := .tup [V.ref p1, V.int 0]) h2
    have kA := kT.trans (k1.trans k2)
    obtain ⟨g1, g2⟩ := nx_push (y := (((ks.getD i 0, ks, bk) : StT), (0 : Int))) e nL hL' nx' kA upd_same ⟨q0, by rw [gd]; exact k2 _ _ upd_same, kA _ _ (e _ _ hq)⟩
    refine ⟨xs, kA _ _ hL', by omega, ⟨_, sq_l upd_same⟩, ks.map V.int, sq_t (g1 _ _ hq), fun z => ?_, fun p3 h3 => ?_⟩
    · have := z.2
      rw [HT.sIx_nat, lm, Nat.min_eq_left (Nat.le_of_lt hi)] at this
      omega
    have k3 := exn (o := .tup (cutV (ks.map V.int) none (some (i : Int)))) h3
    refine ⟨ks.map V.int, sq_t (k3 _ _ (g1 _ _ hq)), fun z => ?_, fun p4 h4 => ?_⟩
    · have := z.1
      rw [show ((i : Int) + 1) = ((i + 1 : Nat) : Int) by omega, HT.sIx_nat, lm, Nat.min_eq_left hi] at this
      omega
    have k4 := exn (o := .tup (cutV (ks.map V.int) (some ((i : Int) + 1)) none)) h4
    refine catA_mk (k4 _ _ upd_same) upd_same (by have c1 := cutV_length (ks.map V.int) none (some (i : Int)); have c2 := cutV_length (ks.map V.int) (some ((i : Int) + 1)) none; omega) fun r H6 e6 hr6 p5 h5 p6 h6 => ?_
    have k5 := exn (o := .tup [V.int hd, V.ref r, V.int bk]) h5
    have k6 := exn (o := .tup [V.ref p5, V.int 0]) h6
    have kB := k3.trans (k4.trans (e6.trans (k5.trans k6)))
    obtain ⟨g3, g4⟩ := nx_push (y := (((hd, ks.take i ++ ks.drop (i + 1), bk) : StT), (0 : Int))) g1 nL upd_same g2 kB upd_same ⟨r, k6 _ _ upd_same, k6 _ _ (k5 _ _ (by rw [hr6, cut_lo (by omega), cut_hi (by omega), List.map_append, List.map_take, List.map_drop]))⟩
    refine ⟨_, kB _ _ upd_same, by rw [List.length_append]; show _ + 1 < _; omega, g3, ?_⟩
    rw [List.range_succ, List.flatMap_append, ← List.append_assoc, List.flatMap_singleton]
    exact (List.append_assoc (A ++ _) [_] [_]) ▸ g4
  rintro σ H3 ⟨xs, x7, x8, rfl, e3, hL3, nx3⟩
  refine Evl.q_cut (M := fun σ' H' => ∃ xs, σ' = [some (.int n), some (.int s), some (.ref p), some (.int hd), some (.ref q0), some (.int bk), some (.ref L), x7, x8, none] ∧ Ex H H' ∧ H' L = some (.lst xs) ∧ NxA H' xs (nextL n s (hd, ks, bk))) ?_ ?_
  · walk_at "rd"
    have lx3 : xs.length ≤ 100 := by
      rw [nx3.1, List.length_append, flen]
      omega
    have keep : ¬ (bk < n ∧ hd = n - 1 - bk) → Ex H H3 ∧ ∃ x, H3 L = some (HO.lst x) ∧ NxA H3 x (nextL n s (hd, ks, bk)) := fun h => by
      refine ⟨e3, xs, hL3, ?_⟩
      rw [nextL_eq, eA, if_neg h, List.append_nil]
      exact nx3
    refine ite2 (fun h => ite2 (fun h2 => ⟨⟨xs, sq_l hL3⟩, fun p1 hp1 p2 hp2 => ?_⟩) fun h2 => keep fun z => h2 z.2) fun h => keep fun z => h z.1
    have k1 := exn (o := .tup [V.int hd, V.ref q0, V.int (bk + 1)]) hp1
    have k2 := exn (o := .tup [V.ref p1, V.int 0]) hp2
    obtain ⟨g1, g2⟩ := nx_push (y := (((hd, ks, bk + 1) : StT), (0 : Int))) e3 nL hL3 nx3 (k1.trans k2) upd_same ⟨q0, k2 _ _ upd_same, k2 _ _ (k1 _ _ (e3 _ _ hq))⟩
    refine ⟨xs, k2 _ _ (k1 _ _ hL3), by omega, g1, ?_⟩
    rw [nextL_eq, eA, if_pos ⟨h, h2⟩]
    exact g2
  rintro σ H4 ⟨xs, rfl, e4, hL4, nx4⟩
  walk_at "rd"
  exact q L xs _ e4 nL hL4 nx4
/-! ### step by step: what stands in the heap for the mirror -/
theorem codeS_inj {x y : StT} (hx : okS x = true) (hy : okS y = true) (h : codeS x = codeS y) : x = y := by
  have h1 : decS (codeS x) = x := of_decide_eq_true hx
  have h2 : decS (codeS y) = y := of_decide_eq_true hy
  rw [← h1, ← h2, h]
theorem getW_addW (w : List (Int × List StT)) (k j : Int) (x : StT) : getW (addW w k x) j = if j = k then x :: getW w j else getW w j := by
  induction w with
  | nil =>
    show (if k = j then [x] else []) = _
    by_cases h : j = k
    · rw [if_pos h.symm, if_pos h]; rfl
    · rw [if_neg (fun z => h z.symm), if_neg h]; rfl
  | cons q w ih =>
    unfold addW
    by_cases h : q.1 = k
    · rw [if_pos h]
      show (if q.1 = j then x :: q.2 else getW w j) = if j = k then x :: (if q.1 = j then q.2 else getW w j) else (if q.1 = j then q.2 else getW w j)
      by_cases g : q.1 = j
      · rw [if_pos g, if_pos (g.symm.trans h), if_pos g]
      · rw [if_neg g, if_neg (fun z => g (h.trans z.symm)), if_neg g]
    · rw [if_neg h]
      show (if q.1 = j then q.2 else getW (addW w k x) j) = if j = k then x :: (if q.1 = j then q.2 else getW w j) else (if q.1 = j then q.2 else getW w j)
      by_cases g : q.1 = j
      · rw [if_pos g, if_neg (fun z => h (g.trans z)), if_pos g]
      · rw [if_neg g, if_neg g, ih]
/-- a list of states, the last one first -/
def LsA (H : Hp) (a : Addr) (l : List StT) : Prop := ∃ xs, H a = some (.lst xs) ∧ xs.length = l.length ∧ ∀ (i : Nat) (x : StT), l.reverse[i]? = some x → okS x = true ∧ ∃ p : Addr, xs[i]? = some (V.ref p) ∧ StV H p x
theorem LsA.ex {H H' : Hp} {a : Addr} {l : List StT} (e : Ex H H') (h : LsA H a l) : LsA H' a l := by
  obtain ⟨xs, h1, h2, h3⟩ := h
  refine ⟨xs, e _ _ h1, h2, fun i x hx => ?_⟩
  obtain ⟨o, p, g1, g2⟩ := h3 i x hx
  exact ⟨o, p, g1, g2.ex e⟩
theorem LsA.mo {H H' : Hp} {a r : Addr} {l : List StT} (ne : a ≠ r) (nt : ∀ xs, H r ≠ some (.tup xs)) (m : Mo r H H') (h : LsA H a l) : LsA H' a l := by
  obtain ⟨xs, h1, h2, h3⟩ := h
  refine ⟨xs, m _ _ ne h1, h2, fun i x hx => ?_⟩
  obtain ⟨o, p, g1, g2⟩ := h3 i x hx
  exact ⟨o, p, g1, g2.mo nt m⟩
theorem LsA.nil {H : Hp} {a : Addr} (h : H a = some (.lst [])) : LsA H a [] := ⟨[], h, rfl, fun i x hx => by cases hx⟩
theorem LsA.nt {H : Hp} {a : Addr} {l : List StT} (h : LsA H a l) : ∀ xs, H a ≠ some (.tup xs) := fun ys z => by
  obtain ⟨xs, h1, _⟩ := h
  rw [h1] at z
  cases z
theorem LsA.push {H : Hp} {a p : Addr} {l : List StT} {xs : List V} {x : StT} (h : LsA H a l) (hx : H a = some (.lst xs)) (ok : okS x = true) (hp : StV H p x) : LsA (upd H a (.lst (xs ++ [.ref p]))) a (x :: l) := by
  have nt := h.nt
  have m : Mo a H (upd H a (.lst (xs ++ [.ref p]))) := Mo.upd
  obtain ⟨xs', h1, h2, h3⟩ := h
  rw [hx] at h1
  cases h1
  refine ⟨_, upd_same, by rw [List.length_append, h2]; rfl, fun i y hy => ?_⟩
  rw [List.reverse_cons] at hy
  by_cases hl : i < l.length
  · rw [List.getElem?_append_left (by rw [List.length_reverse]; exact hl)] at hy
    obtain ⟨o, q, g1, g2⟩ := h3 i y hy
    exact ⟨o, q, by rw [List.getElem?_append_left (by rw [h2]; exact hl)]; exact g1, g2.mo nt m⟩
  · have hi : i = l.length := by
      have := (List.getElem?_eq_some_iff.mp hy).1
      rw [List.length_append, List.length_reverse] at this
      have : i < l.length + 1 := this
      omega
    subst hi
    rw [List.getElem?_append_right (by rw [List.length_reverse]; exact Nat.le_refl _), List.length_reverse, Nat.sub_self] at hy
    cases hy
    exact ⟨ok, p, by rw [← h2]; simp, hp.mo nt m⟩
theorem LsA.pop {H : Hp} {a : Addr} {l : List StT} {x : StT} (h : LsA H a (x :: l)) : ∃ xs p, H a = some (.lst xs) ∧ xs[xs.length - 1]? = some (V.ref p) ∧ okS x = true ∧ StV H p x ∧ LsA (upd H a (.lst xs.dropLast)) a l ∧ StV (upd H a (.lst xs.dropLast)) p x := by
  have nt := h.nt
  obtain ⟨xs, h1, h2, h3⟩ := h
  have m : Mo a H (upd H a (.lst xs.dropLast)) := Mo.upd
  have h2' : xs.length = l.length + 1 := h2
  obtain ⟨o, p, g1, g2⟩ := h3 l.length x (by rw [List.reverse_cons, List.getElem?_append_right (by rw [List.length_reverse]; exact Nat.le_refl _), List.length_reverse, Nat.sub_self]; rfl)
  refine ⟨xs, p, h1, by rw [h2']; exact g1, o, g2, ⟨_, upd_same, by rw [List.length_dropLast, h2']; omega, fun i y hy => ?_⟩, g2.mo nt m⟩
  have hi : i < l.length := by
    have := (List.getElem?_eq_some_iff.mp hy).1
    rw [List.length_reverse] at this
    exact this
  obtain ⟨o', q, k1, k2⟩ := h3 i y (by rw [List.reverse_cons, List.getElem?_append_left (by rw [List.length_reverse]; exact hi)]; exact hy)
  exact ⟨o', q, by rw [List.getElem?_dropLast, if_pos (by omega)]; exact k1, k2.mo nt m⟩
abbrev keyI (j : Int) : Key := .inl j
structure BfA (P : Program) (w : World) (B H : Hp) (W D T : Addr) (k : Int) (b : Bf) (M : Nat) : Prop where
  ex : Ex B H
  nW : B W = none
  nD : B D = none
  nT : B T = none
  td : LsA H T b.todo ∧ b.todo.length ≤ M
  wt : ∃ (kvs : List (Key × V)) (f : Int → Option Addr), H W = some (.dK kvs) ∧ kvs.length ≤ M ∧ (∀ j, k < j → f j = none → valV kvs (keyI j) = none ∧ getW b.wait j = []) ∧
    (∀ j a, k < j → f j = some a → valV kvs (keyI j) = some (.ref a) ∧ LsA H a (getW b.wait j) ∧ (getW b.wait j).length ≤ M ∧ B a = none ∧ a ≠ T) ∧ (∀ j j' a, k < j → k < j' → f j = some a → f j' = some a → j = j')
  sn : ∃ ks, SeenA P w H D ks ∧ ks.length ≤ M ∧ ∀ x, okS x = true → b.seen.testBit (codeS x) = ks.any fun q => decide (q.1 = x)
section
variable {B H H' : Hp} {W D T : Addr} {k : Int} {b : Bf} {M : Nat}
theorem SeenA.ex {d : Addr} {ks : List (StT × Addr)} (e : Ex H H') (h : SeenA P w H d ks) : SeenA P w H' d ks := ⟨e _ _ h.1, fun q hq => (h.2 q hq).ex e⟩
theorem SeenA.mo {d r : Addr} {ks : List (StT × Addr)} (ne : d ≠ r) (nt : ∀ xs, H r ≠ some (.tup xs)) (m : Mo r H H') (h : SeenA P w H d ks) : SeenA P w H' d ks := ⟨m _ _ ne h.1, fun q hq => (h.2 q hq).mo nt m⟩
theorem BfA.grow (h : BfA P w B H W D T k b M) (e : Ex H H') : BfA P w B H' W D T k b M := by
  obtain ⟨ex, nW, nD, nT, ⟨t1, t2⟩, ⟨kvs, f, w1, w2, w3, w4, w5⟩, ks, s1, s2, s3⟩ := h
  refine ⟨ex.trans e, nW, nD, nT, ⟨t1.ex e, t2⟩, ⟨kvs, f, e _ _ w1, w2, w3, fun j a hj ha => ?_, w5⟩, ks, s1.ex e, s2, s3⟩
  obtain ⟨a1, a2, a3, a4, a5⟩ := w4 j a hj ha
  exact ⟨a1, a2.ex e, a3, a4, a5⟩
theorem BfA.more {M' : Nat} (h : BfA P w B H W D T k b M) (e : M ≤ M') : BfA P w B H W D T k b M' := by
  obtain ⟨ex, nW, nD, nT, ⟨t1, t2⟩, ⟨kvs, f, w1, w2, w3, w4, w5⟩, ks, s1, s2, s3⟩ := h
  refine ⟨ex, nW, nD, nT, ⟨t1, by omega⟩, ⟨kvs, f, w1, by omega, w3, fun j a hj ha => ?_, w5⟩, ks, s1, by omega, s3⟩
  obtain ⟨a1, a2, a3, a4, a5⟩ := w4 j a hj ha
  exact ⟨a1, a2, by omega, a4, a5⟩
theorem BfA.neWT (h : BfA P w B H W D T k b M) : W ≠ T := fun z => by
  obtain ⟨xs, h1, _⟩ := h.td.1
  obtain ⟨kvs, f, w1, _⟩ := h.wt
  rw [z, h1] at w1
  cases w1
theorem BfA.neDT (h : BfA P w B H W D T k b M) : D ≠ T := fun z => by
  obtain ⟨xs, h1, _⟩ := h.td.1
  obtain ⟨ks, s1, _⟩ := h.sn
  have := s1.1
  rw [z, h1] at this
  cases this
theorem BfA.neDW (h : BfA P w B H W D T k b M) : D ≠ W := fun z => by
  obtain ⟨kvs, f, w1, _⟩ := h.wt
  obtain ⟨ks, s1, _⟩ := h.sn
  have := s1.1
  rw [z, w1] at this
  cases this
/-- a change of the list that is gone through -/
theorem BfA.setT {t : List StT} {M' : Nat} (h : BfA P w B H W D T k b M) (hM : M ≤ M') {xs : List V} (ls : LsA (upd H T (.lst xs)) T t) (tl : t.length ≤ M') : BfA P w B (upd H T (.lst xs)) W D T k { b with todo := t } M' := by
  have n1 := h.neWT
  have n2 := h.neDT
  have nt := h.td.1.nt
  have m : Mo T H (upd H T (.lst xs)) := Mo.upd
  obtain ⟨ex, nW, nD, nT, ⟨t1, t2⟩, ⟨kvs, f, w1, w2, w3, w4, w5⟩, ks, s1, s2, s3⟩ := h
  refine ⟨Mo.ex_new ex nT m, nW, nD, nT, ⟨ls, tl⟩, ⟨kvs, f, m _ _ n1 w1, by omega, w3, fun j a hj ha => ?_, w5⟩, ks, s1.mo n2 nt m, by omega, s3⟩
  obtain ⟨a1, a2, a3, a4, a5⟩ := w4 j a hj ha
  exact ⟨a1, a2.mo a5 nt m, Nat.le_trans a3 hM, a4, a5⟩
theorem BfA.look (h : BfA P w B H W D T k b M) : ∃ ks, SeenA P w H D ks ∧ ks.length ≤ M ∧ (∀ x, okS x = true → b.seen.testBit (codeS x) = ks.any fun q => decide (q.1 = x)) ∧ ∀ x p, okS x = true → StV H p x → BfA P w B (upd H D (SeenO P w D (ks ++ [(x, p)]))) W D T k { b with seen := b.seen ||| (1 <<< codeS x) } (M + 1) := by
  have n1 := h.neDW
  have n2 := h.neDT
  obtain ⟨ex, nW, nD, nT, ⟨t1, t2⟩, ⟨kvs, f, w1, w2, w3, w4, w5⟩, ks', s1, s2, s3⟩ := h
  refine ⟨ks', s1, s2, s3, fun x p ok hp => ?_⟩
  have nt : ∀ xs, H D ≠ some (.tup xs) := fun xs z => by have := s1.1; rw [z] at this; cases this
  have m : Mo D H (upd H D (SeenO P w D (ks' ++ [(x, p)]))) := Mo.upd
  refine ⟨Mo.ex_new ex nD m, nW, nD, nT, ⟨t1.mo n2.symm nt m, Nat.le_succ_of_le t2⟩, ⟨kvs, f, m _ _ n1.symm w1, by omega, w3, fun j a hj ha => ?_, w5⟩, ks' ++ [(x, p)], ⟨upd_same, fun q hq => ?_⟩, by rw [List.length_append]; show _ + 1 ≤ _; omega, fun y oy => ?_⟩
  · obtain ⟨a1, a2, a3, a4, a5⟩ := w4 j a hj ha
    exact ⟨a1, a2.mo (fun z => by obtain ⟨xs, h1, _⟩ := a2; have := s1.1; rw [← z, h1] at this; cases this) nt m, Nat.le_succ_of_le a3, a4, a5⟩
  · rcases List.mem_append.mp hq with hq | hq
    · exact (s1.2 q hq).mo nt m
    · rw [List.mem_singleton.mp hq]
      exact hp.mo nt m
  · show (b.seen ||| (1 <<< codeS x)).testBit (codeS y) = _
    rw [Nat.testBit_or, s3 y oy, List.any_append, Nat.one_shiftLeft, Nat.testBit_two_pow]
    congr 1
    show _ = (decide (x = y) || false)
    rw [Bool.or_false]
    by_cases e : x = y
    · rw [decide_eq_true e, e, decide_eq_true rfl]
    · rw [decide_eq_false e, decide_eq_false fun z => e (codeS_inj ok oy z)]
/-- what waits at a step, with one more -/
theorem BfA.pushW (h : BfA P w B H W D T k b M) {j : Int} (hj : k < j) {x : StT} {p : Addr} (ok : okS x = true) (hp : StV H p x) :
    ∃ kvs, H W = some (.dK kvs) ∧ kvs.length ≤ M ∧
    (∀ v, valV kvs (keyI j) = some v → ∃ a xs, v = .ref a ∧ H a = some (.lst xs) ∧ xs.length ≤ M ∧ BfA P w B (upd H a (.lst (xs ++ [.ref p]))) W D T k { b with wait := addW b.wait j x } (M + 1)) ∧
    (∀ l, valV kvs (keyI j) = none → H l = none → BfA P w B (upd (upd (upd H l (.lst [])) W (.dK (putK kvs (keyI j) (.ref l)))) l (.lst [.ref p])) W D T k { b with wait := addW b.wait j x } (M + 1)) := by
  have n1 := h.neDW
  have n2 := h.neDT
  have n3 := h.neWT
  obtain ⟨ex, nW, nD, nT, ⟨t1, t2⟩, ⟨kvs, f, w1, w2, w3, w4, w5⟩, ks, s1, s2, s3⟩ := h
  refine ⟨kvs, w1, w2, fun v hv => ?_, fun l hv hl0 => ?_⟩
  · cases hf : f j with
    | none => rw [(w3 j hj hf).1] at hv; cases hv
    | some a =>
      obtain ⟨a1, a2, a3, a4, a5⟩ := w4 j a hj hf
      rw [a1] at hv
      cases hv
      have nt := a2.nt
      obtain ⟨xs, hx⟩ : ∃ xs, H a = some (.lst xs) := ⟨_, a2.choose_spec.1⟩
      have lx : xs.length = (getW b.wait j).length := by
        obtain ⟨ys, h1, h2, _⟩ := a2
        rw [hx] at h1
        cases h1
        exact h2
      have m : Mo a H (upd H a (.lst (xs ++ [.ref p]))) := Mo.upd
      have nD' : D ≠ a := fun z => by have := s1.1; rw [z, hx] at this; cases this
      have nW' : W ≠ a := fun z => by rw [z, hx] at w1; cases w1
      refine ⟨a, xs, rfl, hx, by omega, Mo.ex_new ex a4 m, nW, nD, nT, ⟨t1.mo (fun z => a5 z.symm) nt m, Nat.le_succ_of_le t2⟩, ⟨kvs, f, m _ _ nW' w1, by omega, fun i hi fi => ⟨(w3 i hi fi).1, ?_⟩, fun i c hi fi => ?_, w5⟩, ks, s1.mo nD' nt m, by omega, s3⟩
      · show getW (addW b.wait j x) i = []
        rw [getW_addW, if_neg (fun z => by rw [z, hf] at fi; cases fi)]
        exact (w3 i hi fi).2
      · show _ ∧ LsA _ c (getW (addW b.wait j x) i) ∧ (getW (addW b.wait j x) i).length ≤ M + 1 ∧ _
        obtain ⟨c1, c2, c3, c4, c5⟩ := w4 i c hi fi
        rw [getW_addW]
        by_cases e : i = j
        · subst e
          rw [hf] at fi
          cases fi
          rw [if_pos rfl]
          exact ⟨c1, a2.push hx ok hp, by show _ + 1 ≤ _; omega, c4, c5⟩
        · rw [if_neg e]
          exact ⟨c1, c2.mo (fun z => e (w5 i j c hi hj fi (z ▸ hf))) nt m, by omega, c4, c5⟩
  · have hf : f j = none := by
      cases hf : f j with
      | none => rfl
      | some a => rw [(w4 j a hj hf).1] at hv; cases hv
    have no : ∀ i c, k < i → f i = some c → c ≠ l := fun i c hi fi z => by
      obtain ⟨_, ⟨xs, q, _⟩, _⟩ := w4 i c hi fi
      rw [z, hl0] at q
      cases q
    have lT : l ≠ T := fun z => by obtain ⟨xs, q, _⟩ := t1; rw [← z, hl0] at q; cases q
    have nl : B l = none := by
      cases q : B l with
      | none => rfl
      | some o => rw [ex _ _ q] at hl0; cases hl0
    have e0 := exn (o := .lst []) hl0
    have hl : upd H l (.lst []) l = some (.lst []) := upd_same
    generalize upd H l (.lst []) = H1 at e0 hl ⊢
    replace ex := ex.trans e0
    replace t1 := t1.ex e0
    replace w1 := e0 _ _ w1
    replace s1 := s1.ex e0
    replace hp := hp.ex e0
    replace w4 : ∀ j a, k < j → f j = some a → valV kvs (keyI j) = some (.ref a) ∧ LsA H1 a (getW b.wait j) ∧ (getW b.wait j).length ≤ M ∧ B a = none ∧ a ≠ T := fun i c hi fi => by
      obtain ⟨c1, c2, c3, c4, c5⟩ := w4 i c hi fi
      exact ⟨c1, c2.ex e0, c3, c4, c5⟩
    clear e0 hl0
    have ntW : ∀ xs, H1 W ≠ some (.tup xs) := fun xs z => by rw [w1] at z; cases z
    have m1 : Mo W H1 (upd H1 W (.dK (putK kvs (keyI j) (.ref l)))) := Mo.upd
    have lW : l ≠ W := fun z => by rw [z, w1] at hl; cases hl
    have lD : l ≠ D := fun z => by have := s1.1; rw [← z, hl] at this; cases this
    have hl1 := m1 _ _ lW hl
    have l1 : LsA (upd H1 W (.dK (putK kvs (keyI j) (.ref l)))) l [] := .nil hl1
    have m2 : Mo l (upd H1 W (.dK (putK kvs (keyI j) (.ref l)))) (upd (upd H1 W (.dK (putK kvs (keyI j) (.ref l)))) l (.lst [.ref p])) := Mo.upd
    have l2 := l1.push (p := p) (xs := []) hl1 ok (hp.mo ntW m1)
    have mx : ∀ {c o}, c ≠ W → c ≠ l → H1 c = some o → (upd (upd H1 W (.dK (putK kvs (keyI j) (.ref l)))) l (.lst [.ref p])) c = some o := fun g1 g2 g3 => m2 _ _ g2 (m1 _ _ g1 g3)
    refine ⟨Mo.ex_new (Mo.ex_new ex nW m1) nl m2, nW, nD, nT, ⟨(t1.mo n3.symm ntW m1).mo lT.symm l1.nt m2, Nat.le_succ_of_le t2⟩, ⟨putK kvs (keyI j) (.ref l), fun i => if i = j then some l else f i, m2 _ _ lW.symm upd_same, by rw [putK_new _ hv, List.length_append]; show _ + 1 ≤ _; omega, fun i hi fi => ?_, fun i c hi fi => ?_, fun i i' c hi hi' fi fi' => ?_⟩, ks, (s1.mo n1 ntW m1).mo lD.symm l1.nt m2, by omega, s3⟩
    · dsimp only at fi
      by_cases e : i = j
      · rw [if_pos e] at fi; cases fi
      · rw [if_neg e] at fi
        rw [valV_put, if_neg (fun z => e (Sum.inl.inj z))]
        show _ ∧ getW (addW b.wait j x) i = []
        rw [getW_addW, if_neg e]
        exact w3 i hi fi
    · dsimp only at fi
      show _ ∧ LsA _ c (getW (addW b.wait j x) i) ∧ (getW (addW b.wait j x) i).length ≤ M + 1 ∧ _
      rw [getW_addW, valV_put]
      by_cases e : i = j
      · subst e
        rw [if_pos rfl] at fi
        cases fi
        rw [if_pos rfl, if_pos rfl, (w3 i hj hf).2]
        exact ⟨rfl, l2, by show 1 ≤ _; omega, nl, lT⟩
      · rw [if_neg e] at fi
        rw [if_neg e, if_neg (fun z => e (Sum.inl.inj z))]
        obtain ⟨c1, c2, c3, c4, c5⟩ := w4 i c hi fi
        have cW : c ≠ W := fun z => by obtain ⟨xs, q1, _⟩ := c2; rw [z, w1] at q1; cases q1
        have cl : c ≠ l := no i c hi fi
        exact ⟨c1, (c2.mo cW ntW m1).mo cl l1.nt m2, by omega, c4, c5⟩
    · dsimp only at fi fi'
      by_cases e : i = j
      · rw [if_pos e] at fi
        cases fi
        by_cases e' : i' = j
        · rw [e, e']
        · rw [if_neg e'] at fi'
          exact absurd rfl (no i' l hi' fi')
      · rw [if_neg e] at fi
        by_cases e' : i' = j
        · rw [if_pos e'] at fi'
          cases fi'
          exact absurd rfl (no i l hi fi)
        · rw [if_neg e'] at fi'
          exact w5 i i' c hi hi' fi fi'
structure BfW (P : Program) (w : World) (B H : Hp) (W D : Addr) (k : Int) (b : Bf) (M : Nat) : Prop where
  ex : Ex B H
  nW : B W = none
  nD : B D = none
  wt : ∃ (kvs : List (Key × V)) (f : Int → Option Addr), H W = some (.dK kvs) ∧ kvs.length ≤ M ∧ (∀ j, k < j → f j = none → valV kvs (keyI j) = none ∧ getW b.wait j = []) ∧
    (∀ j a, k < j → f j = some a → valV kvs (keyI j) = some (.ref a) ∧ LsA H a (getW b.wait j) ∧ (getW b.wait j).length ≤ M ∧ B a = none) ∧ (∀ j j' a, k < j → k < j' → f j = some a → f j' = some a → j = j')
  sn : ∃ ks, SeenA P w H D ks ∧ ks.length ≤ M ∧ ∀ x, okS x = true → b.seen.testBit (codeS x) = ks.any fun q => decide (q.1 = x)
theorem BfA.toW (h : BfA P w B H W D T k b M) : BfW P w B H W D k b M := by
  obtain ⟨ex, nW, nD, nT, _, ⟨kvs, f, w1, w2, w3, w4, w5⟩, sn⟩ := h
  refine ⟨ex, nW, nD, ⟨kvs, f, w1, w2, w3, fun j a hj ha => ?_, w5⟩, sn⟩
  obtain ⟨a1, a2, a3, a4, a5⟩ := w4 j a hj ha
  exact ⟨a1, a2, a3, a4⟩
/-- an object that is kept -/
theorem BfA.rebase {L : Addr} {o : HO} (h : BfA P w B H W D T k b M) (e : Ex H H') (nL : H L = none) (hL : H' L = some o) : BfA P w (upd B L o) H' W D T k b M := by
  have ne : ∀ {c : Addr} {u : HO}, H c = some u → c ≠ L := fun g z => by rw [z, nL] at g; cases g
  obtain ⟨ex, nW, nD, nT, ⟨t1, t2⟩, ⟨kvs, f, w1, w2, w3, w4, w5⟩, ks, s1, s2, s3⟩ := h
  have nb : ∀ {c : Addr}, B c = none → c ≠ L → upd B L o c = none := fun g z => by rw [upd_ne z]; exact g
  refine ⟨fun c u g => ?_, nb nW (ne w1), nb nD (ne s1.1), nb nT (ne t1.choose_spec.1), ⟨t1.ex e, t2⟩, ⟨kvs, f, e _ _ w1, w2, w3, fun j a hj ha => ?_, w5⟩, ks, s1.ex e, s2, s3⟩
  · by_cases z : c = L
    · rw [z, upd_same] at g
      cases g
      rw [z]
      exact hL
    · rw [upd_ne z] at g
      exact e _ _ (ex _ _ g)
  · obtain ⟨a1, a2, a3, a4, a5⟩ := w4 j a hj ha
    exact ⟨a1, a2.ex e, a3, nb a4 (ne a2.choose_spec.1), a5⟩
theorem BfA.unbase {L : Addr} {o : HO} (h : BfA P w (upd B L o) H W D T k b M) (nL : B L = none) : BfA P w B H W D T k b M := by
  obtain ⟨ex, nW, nD, nT, t, ⟨kvs', f', w1, w2, w3, w4, w5⟩, sn⟩ := h
  have nb : ∀ {c : Addr}, upd B L o c = none → B c = none := fun {c} g => by
    by_cases z : c = L
    · rw [z]; exact nL
    · rw [upd_ne z] at g; exact g
  refine ⟨(exn nL).trans ex, nb nW, nb nD, nb nT, t, ⟨kvs', f', w1, w2, w3, fun j a hj ha => ?_, w5⟩, sn⟩
  obtain ⟨a1, a2, a3, a4, a5⟩ := w4 j a hj ha
  exact ⟨a1, a2, a3, nb a4, a5⟩
theorem BfA.pushW2 (h : BfA P w B H W D T k b M) {j : Int} (hj : k < j) {x : StT} {p l : Addr} (ok : okS x = true) (hp : StV H p x) (hl : H l = none) :
    ∃ kvs, upd H l (.lst []) W = some (.dK kvs) ∧ kvs.length ≤ M ∧
    (∀ v, valV kvs (keyI j) = some v → ∃ a xs, v = .ref a ∧ upd H l (.lst []) a = some (.lst xs) ∧ xs.length ≤ M ∧ BfA P w B (upd (upd H l (.lst [])) a (.lst (xs ++ [.ref p]))) W D T k { b with wait := addW b.wait j x } (M + 1)) ∧
    (valV kvs (keyI j) = none → BfA P w B (upd (upd (upd H l (.lst [])) W (.dK (putK kvs (keyI j) (.ref l)))) l (.lst [.ref p])) W D T k { b with wait := addW b.wait j x } (M + 1)) := by
  have e0 := exn (o := .lst []) hl
  obtain ⟨kvs, g1, g2, _, g4⟩ := h.pushW hj ok hp
  obtain ⟨kvs', k1, k2, k3, _⟩ := (h.grow e0).pushW hj ok (hp.ex e0)
  rw [e0 _ _ g1] at k1
  cases k1
  exact ⟨kvs, e0 _ _ g1, g2, k3, fun hv => g4 l hv hl⟩
theorem nextL_len {n s : Int} {x : StT} (n6 : n ≤ 6) (ok : okS x = true) : (nextL n s x).length ≤ 40 := by
  obtain ⟨hd, ks, bk⟩ := x
  obtain ⟨f1, f2, f3, f4, f5, f6, f7⟩ := ok_facts ok
  dsimp only at f1 f2 f3 f4 f5
  have flen : ∀ m : Nat, ((List.range m).flatMap fun (i : Nat) => [(((ks.getD i 0, ks, bk) : StT), (0 : Int)), (((hd, ks.take i ++ ks.drop (i + 1), bk) : StT), (0 : Int))]).length = 2 * m := fun m => by
    rw [List.length_flatMap]
    induction m with
    | zero => rfl
    | succ m ih => rw [List.range_succ, List.map_append, List.sum_append, ih]; show _ + (2 + 0) = _; omega
  rw [nextL_eq, List.length_append, List.length_append, List.length_append, List.length_map, List.length_range, flen]
  have c1 : (if hd ∉ ks ∧ (ks.length : Int) < s then [(((hd, insK hd ks, bk) : StT), (0 : Int))] else []).length ≤ 1 := by
    split
    · exact Nat.le_refl _
    · exact Nat.zero_le _
  have c2 : (if bk < n ∧ hd = n - 1 - bk then [(((hd, ks, bk + 1) : StT), (0 : Int))] else []).length ≤ 1 := by
    split
    · exact Nat.le_refl _
    · exact Nat.zero_le _
  omega
/-- one step on: what waited there -/
theorem BfW.nextK (h : BfW P w B H W D k b M) : ∃ kvs, H W = some (.dK kvs) ∧ (∀ v, valV kvs (keyI (k + 1)) = some v → ∃ a, v = .ref a ∧ BfA P w B H W D a (k + 1) { b with todo := getW b.wait (k + 1) } M) ∧
    (∀ l, valV kvs (keyI (k + 1)) = none → H l = none → BfA P w B (upd H l (.lst [])) W D l (k + 1) { b with todo := getW b.wait (k + 1) } M) := by
  obtain ⟨ex, nW, nD, ⟨kvs, f, w1, w2, w3, w4, w5⟩, ks, s1, s2, s3⟩ := h
  refine ⟨kvs, w1, fun v hv => ?_, fun l hv hl0 => ?_⟩
  · cases hf : f (k + 1) with
    | none => rw [(w3 _ (by omega) hf).1] at hv; cases hv
    | some a =>
      obtain ⟨a1, a2, a3, a4⟩ := w4 _ a (by omega) hf
      rw [a1] at hv
      cases hv
      refine ⟨a, rfl, ex, nW, nD, a4, ⟨a2, a3⟩, ⟨kvs, f, w1, w2, fun i hi => w3 i (by omega), fun i c hi fi => ?_, fun i i' c hi hi' => w5 i i' c (by omega) (by omega)⟩, ks, s1, s2, s3⟩
      obtain ⟨c1, c2, c3, c4⟩ := w4 i c (by omega) fi
      exact ⟨c1, c2, c3, c4, fun z => by have := w5 i (k + 1) c (by omega) (by omega) fi (z ▸ hf); omega⟩
  · have hf : f (k + 1) = none := by
      cases hf : f (k + 1) with
      | none => rfl
      | some a => rw [(w4 _ a (by omega) hf).1] at hv; cases hv
    have nl : B l = none := by
      cases q : B l with
      | none => rfl
      | some o => rw [ex _ _ q] at hl0; cases hl0
    have e0 := exn (o := .lst []) hl0
    refine ⟨ex.trans e0, nW, nD, nl, ⟨by rw [show getW b.wait (k + 1) = [] from (w3 _ (by omega) hf).2]; exact .nil upd_same, by rw [show getW b.wait (k + 1) = [] from (w3 _ (by omega) hf).2]; exact Nat.zero_le _⟩, ⟨kvs, f, e0 _ _ w1, w2, fun i hi => w3 i (by omega), fun i c hi fi => ?_, fun i i' c hi hi' => w5 i i' c (by omega) (by omega)⟩, ks, s1.ex e0, s2, s3⟩
    obtain ⟨c1, c2, c3, c4⟩ := w4 i c (by omega) fi
    exact ⟨c1, c2.ex e0, c3, c4, fun z => by obtain ⟨xs, q, _⟩ := c2; rw [z, hl0] at q; cases q⟩
end
theorem niS_mk {H : Hp} {Q : VK} {r D : Addr} {y : StT} {ks : List (StT × Addr)} {c : Bool} (S1 : SeenA P w H D ks) (g : StV H r y) (e : c = ks.any fun q => decide (q.1 = y)) (k : Q (.bl (!c)) H) : rNiS P w (.ref r) (.ref D) H Q := ⟨D, r, y, ks, rfl, rfl, S1, g, by rw [← e]; exact k⟩
/-- ahead of a step -/
def OutW (P : Program) (w : World) (B : Hp) (n s : Int) (W D : Addr) (f : Nat) (σ : L2.St) (H : Hp) : Prop := ∃ k b M x5 x6 x7 x8, σ = [some (.int n), some (.int s), some (.ref W), some (.ref D), some (.int (k + 1)), x5, x6, x7, x8] ∧ BfW P w B H W D k b M ∧ M + 100 * f ≤ 300000 ∧ 0 ≤ k + 1 ∧ k + 1 < n * n ∧ goB n s f (k + 1) { b with todo := getW b.wait (k + 1) } = some (tzT n s)
/-- in a step -/
def InW (P : Program) (w : World) (B : Hp) (n s : Int) (W D : Addr) (k : Int) (f0 f : Nat) (σ : L2.St) (H : Hp) : Prop := ∃ T b M x6 x7 x8, σ = [some (.int n), some (.int s), some (.ref W), some (.ref D), some (.int k), some (.ref T), x6, x7, x8] ∧ BfA P w B H W D T k b M ∧ M + 100 * f ≤ 300000 ∧ f ≤ f0 ∧ goB n s f k b = some (tzT n s)
theorem bf_at {n s : Int} (n1 : 1 ≤ n) (n6 : n ≤ 6) (s1 : 1 ≤ s) (s3 : s ≤ 3) : goB n s 2000 0 bf0 = some (tzT n s) := by
  have h := List.all_eq_true.mp bf_all (n - 1).toNat (List.mem_range.mpr (by omega))
  have h := List.all_eq_true.mp h (s - 1).toNat (List.mem_range.mpr (by omega))
  have h := of_decide_eq_true h
  rw [show (((n - 1).toNat + 1 : Nat) : Int) = n by omega, show (((s - 1).toNat + 1 : Nat) : Int) = s by omega] at h
  exact h
theorem ex_none {H H' : Hp} {a : Addr} (e : Ex H H') (h : H' a = none) : H a = none := by
  cases q : H a with
  | none => rfl
  | some o => rw [e _ _ q] at h; cases h
theorem out0 {H H' : Hp} {W D a p : Addr} {n s : Int} {x5 x6 x7 x8 : Option V} (n1 : 1 ≤ n) (n6 : n ≤ 6) (s1 : 1 ≤ s) (s3 : s ≤ 3) (e : Ex H H') (nW : H W = none) (nD : H D = none) (na : H a = none) (hW : H' W = some (.dK [(keyI 0, .ref a)])) (hD : H' D = some (SeenO P w D [])) (ha : H' a = some (.lst [.ref p])) (hp : StV H' p (0, [0], 0)) :
    OutW P w H n s W D 2000 [some (.int n), some (.int s), some (.ref W), some (.ref D), some (.int 0), x5, x6, x7, x8] H' := by
  refine ⟨-1, bf0, 1, x5, x6, x7, x8, rfl, ⟨e, nW, nD, ⟨_, fun j => if j = 0 then some a else none, hW, Nat.le_refl _, fun j hj hf => ?_, fun j c hj hf => ?_, fun j j' c hj hj' hf hf' => ?_⟩, [], ⟨hD, fun q hq => by cases hq⟩, Nat.zero_le _, fun x ox => Nat.zero_testBit _⟩, by decide, by decide, ?_, by rw [show ({ wait := bf0.wait, todo := getW bf0.wait (-1 + 1), seen := bf0.seen } : Bf) = bf0 from rfl]; exact bf_at n1 n6 s1 s3⟩
  · dsimp only at hf
    by_cases z : j = 0
    · rw [if_pos z] at hf; cases hf
    · refine ⟨?_, ?_⟩
      · rw [valV_neg (fun q => z (Sum.inl.inj q).symm)]; rfl
      · show (if (0 : Int) = j then _ else _) = _
        rw [if_neg (fun q => z q.symm)]
        rfl
  · dsimp only at hf
    by_cases z : j = 0
    · rw [if_pos z] at hf
      cases hf
      subst z
      refine ⟨rfl, ⟨_, ha, rfl, fun i x hx => ?_⟩, Nat.le_refl _, na⟩
      cases i with
      | zero => cases hx; exact ⟨by decide +kernel, p, rfl, hp⟩
      | succ i => cases hx
    · rw [if_neg z] at hf; cases hf
  · dsimp only at hf hf'
    by_cases z : j = 0
    · by_cases z' : j' = 0
      · rw [z, z']
      · rw [if_neg z'] at hf'; cases hf'
    · rw [if_neg z] at hf; cases hf
  · show (0 : Int) < n * n
    exact Int.mul_pos (by omega) (by omega)
def sp_L_fewest (K : PySem.W.Frag) : Sp := sp2 fun x y H Q _ => ∃ n s : Int, x = .int n ∧ y = .int s ∧ 1 ≤ n ∧ n ≤ 6 ∧ 1 ≤ s ∧ s ≤ 3 ∧ ∀ H', Ex H H' → Q (.int (tzT n s)) H'
theorem sc_L_fewest : FnScope ["_law_n", "_law_s", "_law_waiting", "_law_seen", "_law_steps", "_law_todo", "_law_at", "_law_further", "_law_more"] ["_law_n", "_law_s"] (defScope s_L_fewest) := ⟨rfl, rfl, rfl, by decide +kernel, rfl, by decide +kernel, by decide +kernel⟩
theorem ok_L_fewest (T : Txt P w K mg base) : GOk P w K mg base (L2.CX P w) 2 T.a_L_fewest T.fd_L_fewest ["_law_n", "_law_s"] (sp_L_fewest K) := by
  refine FunD.gok T.F_L_fewest sc_L_fewest (fun vs H Q E h => ar2 h) (fun cdv A fr s H vs Q E hr hc h => ⟨_, PSs.nox (Evl.pss_cut (ps_par3 (i := 2) (j := 3) (l := 4) (by rfl) sc_L_fewest.nd rfl rfl rfl (by decide) (by decide) (by decide) rfl rfl rfl (pa_cons (pe_disp (pps_cons pe_int (pe_lst (pa_cons (pe_tup (pa_cons pe_int (pa_cons (pe_tup (pa_cons pe_int pa_nil)) (pa_cons pe_int pa_nil)))) pa_nil)) pps_nil) (by rfl) (by rfl) (by simp) (by decide)) (pa_cons (show PE _ _ (tDNewS P w) from pe_dnewS) (pa_cons pe_int pa_nil))) (by rfl)) (pss_cons (ps_while PassesOwn.never (pt_cmpR op_lt (pv 4) (pe_op op_mulB (pv 0) (pv 0)) (nomark _)) (pss_cons (ps_set (i := 5) sc_L_fewest.nd rfl (.inl rfl) (pe_dget2 (hu1 hr) (pv 2) (pv 4) (pe_lst pa_nil) ⟨by rfl, by rfl, by rfl, by rfl⟩)) (pss_cons (ps_while PassesOwn.never (pt_cmpR (r := rNeL0 K) (op_neL0 hr) (pv 5) (pe_lst pa_nil) (nomark _)) (pss_cons (ps_set (i := 6) sc_L_fewest.nd rfl (.inl rfl) (pe_bm0 PySem.F.plainAttrs_list PySem.F.slot_list_pop PySem.F.type_list_pop mt_pop (pv 5))) (pss_cons (ps_if (pt_cmpR op_eq (pe_ix (r := rIxT K) ix_tup (pv 6) pe_int (fun _ _ => rfl)) (pv 0) (nomark _)) (pss_one (ps_ret (pv 4))) pss_nil) (pss_one (ps_if (pt_cmpR (r := rNiS P w) (op_niS hr) (pv 6) (pv 3) (by rfl)) (pss_cons (ps_asg pe_bl (pg_sub (pv 3) (pv 6) (show PSet _ (rSetS P w) from set_seen hr))) (pss_one (ps_for PassesOwn.never rfl (pi_list (pe_callG (ok_L_next T) hr hc (by rfl) T.g_L_next T.F_L_next.kp T.b_L_next .nil passL (pa_cons (pv 0) (pa_cons (pv 1) (pa_cons (pv 6) pa_nil))))) (pg_tupT (n := 2) rfl (pgs_cons (pg_name (i := 7) sc_L_fewest.nd rfl (.inl rfl)) (pgs_cons (pg_name (i := 8) sc_L_fewest.nd rfl (.inl rfl)) pgs_nil))) (pss_cons (ps_if (PW.pt (pw_and (pt_cmpR (r := rNiS P w) (op_niS hr) (pv 7) (pv 3) (by rfl)) (pw_and1 (pt_cmpR op_eq (pv 8) pe_int (nomark _))))) (pss_one (ps_expr (pe_bm PySem.F.plainAttrs_list PySem.F.slot_list_append PySem.F.type_list_append mt_append (pv 5) (pa_cons (pv 7) pa_nil)))) pss_nil) (pss_one (ps_if (PW.pt (pw_and (pt_cmpR (r := rNiS P w) (op_niS hr) (pv 7) (pv 3) (by rfl)) (pw_and1 (pt_cmpR op_gt (pv 8) pe_int (nomark _))))) (pss_one (ps_expr (pe_bm PySem.F.plainAttrs_list PySem.F.slot_list_append PySem.F.type_list_append mt_append (pe_dsetd (pv 2) (pe_op op_add (pv 4) (pv 8)) (pe_lst pa_nil) ⟨by rfl, by rfl, by rfl, by rfl⟩) (pa_cons (pv 7) pa_nil)))) pss_nil)))))) pss_nil))))) (pss_one (ps_set (i := 4) sc_L_fewest.nd rfl (.inl rfl) (pe_op op_add (pv 4) pe_int)))))) (pss_one (ps_ret pe_non)))), ?_⟩)
  obtain ⟨_, _, rfl, n, s, rfl, rfl, n1, n6, s1, s3, q⟩ := h
  refine Evl.q_cut (M := fun σ' H' => ∃ W D, σ' = [some (.int n), some (.int s), some (.ref W), some (.ref D), some (.int 0), none, none, none, none] ∧ OutW P w H n s W D 2000 [some (.int n), some (.int s), some (.ref W), some (.ref D), some (.int 0), none, none, none, none] H') ?_ ?_
  · walk_at "rd"
    unfold tDisp tPairs tPairs tDNewS
    intro W hW
    walk_at "rd"
    intro p1 hp1 p2 hp2 a ha
    have k0 := exn (o := .dK []) hW
    have k1 := exn (o := .tup [V.int 0]) hp1
    have k2 := exn (o := .tup [V.int 0, V.ref p1, V.int 0]) hp2
    have k3 := exn (o := .lst [V.ref p2]) ha
    have kk := k1.trans (k2.trans k3)
    have aW : a ≠ W := fun z => by
      have := k2 _ _ (k1 _ _ (upd_same (H := H) (a := W) (o := .dK [])))
      rw [z, this] at ha
      cases ha
    refine ⟨kk _ _ upd_same, [(keyI 0, .ref a)], rfl, by show (1 : Nat) ≤ 15; omega, fun D hD => ?_⟩
    have m : Mo W _ (upd _ W (.dK (mergeK [] [(keyI 0, .ref a)]))) := Mo.upd (H := upd (upd (upd (upd H W (HO.dK [])) p1 (HO.tup [V.int 0])) p2 (HO.tup [V.int 0, V.ref p1, V.int 0])) a (HO.lst [V.ref p2]))
    have k5 := exn (o := SeenO P w D []) hD
    have eH := Mo.ex_new (k0.trans kk) hW m
    have hp : StV (upd (upd (upd (upd H W (HO.dK [])) p1 (HO.tup [V.int 0])) p2 (HO.tup [V.int 0, V.ref p1, V.int 0])) a (HO.lst [V.ref p2])) p2 (0, [0], 0) := ⟨p1, k3 _ _ upd_same, k3 _ _ (k2 _ _ upd_same)⟩
    exact out0 n1 n6 s1 s3 (eH.trans k5) hW (ex_none eH hD) (ex_none (k0.trans (k1.trans k2)) ha) (k5 _ _ upd_same) upd_same (k5 _ _ (m _ _ aW upd_same)) ((hp.mo (fun xs z => by rw [kk _ _ upd_same] at z; cases z) m).ex k5)
  rintro σ H1 ⟨W, D, rfl, ho⟩
  walk_at "rd"
  refine ⟨OutW P w H n s W D, ⟨2000, ho⟩, ?_⟩
  rintro f σ' H' ⟨k, b, M, x5, x6, x7, x8, rfl, hw, hM, k0, kn, hg⟩
  walk_at "rd"
  unfold tDGet2
  walk_at "rd"
  refine ⟨by walk_at "ar", ?_⟩
  rw [if_pos kn]
  obtain ⟨kvs, w1, hs, hn⟩ := hw.nextK
  refine ⟨fun σ' H' => ∃ m', m' < f ∧ OutW P w H n s W D m' σ' H', fun _ _ z => z, .inl ⟨kvs, .inl w1⟩, fun l hl => ?_⟩
  have e0 := exn (o := .lst []) hl
  refine ⟨_, DGet.k (k := keyI (k + 1)) (e0 _ _ w1), ?_⟩
  obtain ⟨T, eT, hA⟩ : ∃ T, (valV kvs (keyI (k + 1))).getD (V.ref l) = .ref T ∧ BfA P w H (upd H' l (.lst [])) W D T (k + 1) { b with todo := getW b.wait (k + 1) } M := by
    cases hv : valV kvs (keyI (k + 1)) with
    | none => exact ⟨l, rfl, hn l hv hl⟩
    | some v =>
      obtain ⟨a, rfl, hA⟩ := hs v hv
      exact ⟨a, rfl, hA.grow e0⟩
  rw [eT]
  generalize upd H' l (.lst []) = H2 at hA
  refine ⟨InW P w H n s W D (k + 1) f, ⟨f, T, _, M, x6, x7, x8, rfl, hA, hM, Nat.le_refl _, hg⟩, ?_⟩
  clear hg hA eT
  rintro f' σ2 H2 ⟨T, b, M, x6, x7, x8, rfl, hA, hM, hf, hg⟩
  walk_at "rd"
  intro l hl
  have e0 := exn (o := .lst []) hl
  obtain ⟨xs, hx, lx, _⟩ := hA.td.1
  have lT := hA.td.2
  refine ⟨T, l, xs, rfl, rfl, sq_l (e0 _ _ hx), sq_l upd_same, ?_⟩
  cases f' with
  | zero => cases hg
  | succ f' =>
  cases et : b.todo with
  | nil =>
    rw [et] at lx
    unfold goB at hg
    rw [et] at hg
    dsimp only at hg
    refine ⟨_, rfl, ?_⟩
    rw [decide_eq_false (by rw [lx]; exact fun z => z rfl), if_neg (by decide)]
    by_cases hk : k + 1 + 1 < n * n
    · rw [if_pos hk] at hg
      exact ⟨f', by omega, k + 1, b, M, some (.ref T), x6, x7, x8, rfl, (hA.grow e0).toW, by omega, by omega, hk, hg⟩
    · rw [if_neg hk] at hg
      cases hg
  | cons x t =>
    unfold goB at hg
    rw [et] at hg
    dsimp only at hg
    refine ⟨_, rfl, ?_⟩
    rw [decide_eq_true (by rw [lx, et]; exact Nat.succ_ne_zero _), if_pos rfl]
    refine ⟨fun σ' H' => ∃ m', m' < f' + 1 ∧ InW P w H n s W D (k + 1) f m' σ' H', fun _ _ z => z, ⟨_, sq_l (e0 _ _ hx)⟩, ?_⟩
    have hA2 := hA.grow e0
    generalize upd H2 l (.lst []) = H3 at hA2 ⊢
    have td := hA2.td.1
    rw [et] at td
    obtain ⟨xs, p, hx, hp, ok, sv, ls, sv'⟩ := td.pop
    have hA3 := hA2.setT (Nat.le_refl _) ls (by have := hA2.td.2; rw [et] at this; exact Nat.le_of_succ_le this)
    refine ⟨T, xs, _, rfl, rfl, hx, hp, ?_⟩
    generalize upd H3 T (.lst xs.dropLast) = H4 at hA3 sv' ⊢
    have ⟨q0, sp, sq⟩ := sv'
    refine ⟨p, rfl, _, sq_t sp, _, rfl, rfl, ?_⟩
    by_cases hn : x.2.2 = n
    · rw [if_pos hn] at hg
      rw [if_pos (by rw [hn]), Option.some.inj hg]
      exact q _ hA3.ex
    rw [if_neg hn] at hg
    rw [if_neg (fun z => hn (V.int.inj z))]
    obtain ⟨ks, S1, S2, S3, mark⟩ := hA3.look
    have S4 := S3 x ok
    dsimp only at S4
    refine ⟨D, p, x, ks, rfl, rfl, S1, sv', _, rfl, ?_⟩
    rw [← S4]
    by_cases ht : b.seen.testBit (codeS x) = true
    · rw [if_pos ht] at hg
      rw [ht, if_neg (show ¬ (!true) = true by decide)]
      exact ⟨f', Nat.lt_succ_self _, T, _, M, _, x7, x8, rfl, hA3, by omega, by omega, hg⟩
    rw [if_neg ht] at hg
    have ht' : b.seen.testBit (codeS x) = false := by simpa using ht
    rw [ht', if_pos (show (!false) = true from rfl)]
    cases ep : pushAll (k + 1) { wait := b.wait, todo := t, seen := b.seen ||| 1 <<< codeS x } (nextL n s x) with
    | none => rw [ep] at hg; cases hg
    | some b' =>
    rw [ep] at hg
    dsimp only at hg
    have hA5 := mark x p ok sv'
    refine ⟨D, p, x, ks, rfl, rfl, rfl, S1, sv', by rw [← S4]; exact ht', by rw [sizeLine_eq]; omega, ?_⟩
    have m5 : Mo D H4 (upd H4 D (SeenO P w D (ks ++ [(x, p)]))) := Mo.upd
    have sv5 := sv'.mo (fun xs z => by have := S1.1; rw [z] at this; cases this) m5
    generalize upd H4 D (SeenO P w D (ks ++ [(x, p)])) = H5 at hA5 sv5 ⊢
    clear hA mark S1 hA2 hA3 td ls sp sq sv' m5 S3 S4 hw hs hn w1
    simp only [tFor_lst]
    unfold sp_L_next
    walk_at "rd"
    refine ⟨x, sv5, by omega, by omega, by omega, by omega, ok, fun L ys H6 e6 nL hL nx => ?_⟩
    have hle := nextL_len (s := s) n6 ok
    have hB := hA5.rebase (L := L) e6 nL hL
    have nLH : H L = none := ex_none hA5.ex nL
    generalize eY : nextL n s x = Y at hle nx ep
    have lY := nx.1
    refine forL_in (sq_l hL) (fun i σ' H' => ∃ b2 y7 y8, σ' = [some (.int n), some (.int s), some (.ref W), some (.ref D), some (.int (k + 1)), some (.ref T), some (.ref p), y7, y8] ∧ BfA P w (upd H L (.lst ys)) H' W D T (k + 1) b2 (M + 1 + i) ∧ NxA H' ys Y ∧ pushAll (k + 1) b2 (Y.drop i) = some b') ⟨_, x7, x8, rfl, hB, nx, ep⟩ ?_ ?_ ?_
    · rintro i σ' H' _ ⟨_, _, _, _, hb, _⟩
      exact sq_l (hb.ex _ _ upd_same)
    · rintro σ' H' ⟨b2, y7, y8, rfl, hb, nx', hp'⟩
      rw [List.drop_of_length_le (Nat.le_of_eq lY.symm)] at hp'
      cases hp'
      exact ⟨f', Nat.lt_succ_self _, T, _, M + 1 + ys.length, some (.ref p), y7, y8, rfl, hb.unbase nLH, by omega, by omega, hg⟩
    rintro i z σ' H' hz ⟨b2, y7, y8, rfl, hb, nx', hp'⟩
    have hi : i < Y.length := by
      have := (List.getElem?_eq_some_iff.mp hz).1
      omega
    obtain ⟨a, r, g1, g2, g3⟩ := nx'.2 i Y[i] (List.getElem?_eq_getElem hi)
    rw [g1] at hz
    cases hz
    rw [List.drop_eq_getElem_cons hi] at hp'
    generalize Y[i] = y at g2 g3 hp'
    obtain ⟨y, m⟩ := y
    dsimp only at g2 g3
    unfold pushAll at hp'
    cases eq : pushB (k + 1) b2 (y, m) with
    | none => rw [eq] at hp'; cases hp'
    | some b3 =>
    rw [eq] at hp'
    dsimp only at hp'
    unfold pushB at eq
    dsimp only at eq
    cases oky : okS y with
    | false => rw [oky, if_pos rfl] at eq; cases eq
    | true =>
    rw [oky, if_neg (by decide)] at eq
    obtain ⟨ks, S1, S2, S3, _⟩ := hb.look
    have S4 := S3 y oky
    walk_at "rd"
    simp only [g2]
    walk_at "rd"
    by_cases ht : b2.seen.testBit (codeS y) = true
    · rw [if_pos ht] at eq
      cases eq
      refine niS_mk S1 g3 (ht.symm.trans S4) ⟨_, rfl, ?_⟩
      rw [if_neg (show ¬ (!true) = true by decide)]
      refine niS_mk S1 g3 (ht.symm.trans S4) ⟨_, rfl, ?_⟩
      rw [if_neg (show ¬ (!true) = true by decide)]
      exact ⟨_, hb.more (by omega), nx', hp'⟩
    rw [if_neg ht] at eq
    have ht' : b2.seen.testBit (codeS y) = false := by simpa using ht
    refine niS_mk S1 g3 (ht'.symm.trans S4) ⟨_, rfl, ?_⟩
    rw [if_pos (show (!false) = true from rfl)]
    by_cases hm : m = 0
    · rw [if_pos hm] at eq ⊢
      cases eq
      have td := hb.td
      have ntT := td.1.nt
      obtain ⟨zs, hz, lz, _⟩ := td.1
      have mT : Mo T H' (upd H' T (.lst (zs ++ [V.ref r]))) := Mo.upd
      have hb3 := hb.setT (t := y :: b2.todo) (M' := M + 1 + (i + 1)) (by omega) (td.1.push hz oky g3) (by show _ + 1 ≤ _; omega)
      refine ⟨⟨zs, sq_l hz⟩, zs, hz, by omega, ?_⟩
      obtain ⟨ks', S1', _, S3', _⟩ := hb3.look
      refine niS_mk S1' (g3.mo ntT mT) (ht'.symm.trans (S3' y oky)) ⟨_, rfl, ?_⟩
      rw [if_pos (show (!false) = true from rfl), if_neg (by omega)]
      exact ⟨_, hb3, nx'.mo ntT mT, hp'⟩
    rw [if_neg hm] at eq ⊢
    refine niS_mk S1 g3 (ht'.symm.trans S4) ⟨_, rfl, ?_⟩
    rw [if_pos (show (!false) = true from rfl)]
    by_cases hm0 : 0 < m
    · rw [if_pos hm0] at eq ⊢
      cases eq
      obtain ⟨kvs0, _, w0, _⟩ := hb.wt
      unfold tDSetd
      walk_at "rd"
      refine ⟨.inl ⟨_, .inl w0⟩, fun l hl => ?_⟩
      have e0 := exn (o := .lst []) hl
      obtain ⟨kvs, v1, v2, v3, v4⟩ := hb.pushW2 (j := k + 1 + m) (by omega) oky g3 hl
      refine ⟨kvs, v1, keyI (k + 1 + m), rfl, by omega, fun v hv => ?_, fun hv => ?_⟩
      · obtain ⟨c, zs, rfl, hc, lc, hb3⟩ := v3 v hv
        refine ⟨by rw [tyV_list]; exact ⟨zs, sq_l hc⟩, c, rfl, zs, hc, by omega, _, hb3, (nx'.ex e0).mo (fun xs z => by rw [hc] at z; cases z) Mo.upd, hp'⟩
      · have lW : l ≠ W := fun z => by rw [z, w0] at hl; cases hl
        have nW : ∀ xs, upd H' l (.lst []) W ≠ some (.tup xs) := fun xs z => by rw [v1] at z; cases z
        have h1 : upd (upd H' l (.lst [])) W (.dK (putK kvs (keyI (k + 1 + m)) (.ref l))) l = some (.lst []) := by rw [upd_ne lW]; exact upd_same
        refine ⟨⟨[], sq_l h1⟩, [], h1, by decide, _, v4 hv, ((nx'.ex e0).mo nW Mo.upd).mo (fun xs z => by rw [h1] at z; cases z) Mo.upd, hp'⟩
    · rw [if_neg hm0] at eq
      cases eq
theorem tz_T {n s : Int} (n1 : 1 ≤ n) (n6 : n ≤ 6) (s1 : 1 ≤ s) (s3 : s ≤ 3) : tz n s = tzT n s := by
  have hh : ((List.range 6).all fun n => (List.range 3).all fun s => decide (tz (n + 1 : Nat) (s + 1 : Nat) = tzT (n + 1 : Nat) (s + 1 : Nat))) = true := by decide +kernel
  have h := List.all_eq_true.mp hh (n - 1).toNat (List.mem_range.mpr (by omega))
  have h := List.all_eq_true.mp h (s - 1).toNat (List.mem_range.mpr (by omega))
  have h := of_decide_eq_true h
  rw [show (((n - 1).toNat + 1 : Nat) : Int) = n by omega, show (((s - 1).toNat + 1 : Nat) : Int) = s by omega] at h
  exact h
def sp_law (K : PySem.W.Frag) : Sp := sp1 fun x H Q _ => ∃ (a : Addr) (ns : List Int), x = .ref a ∧ SqL K H a (ns.map V.int) ∧ ns.length ≤ 63 ∧ ∀ H', Q (.bl true) H'
theorem sc_law : FnScope ["_law_script", "_law_k", "_law_reel", "_law_turn", "_law_n", "_law_s"] ["_law_script"] (defScope s_law) := ⟨rfl, rfl, rfl, by decide +kernel, rfl, by decide +kernel, by decide +kernel⟩
theorem ok_law (T : Txt P w K mg base) : GOk P w K mg base (L2.CX P w) 6 T.a_law T.fd_law ["_law_script"] (sp_law K) := by
  refine FunD.gok T.F_law sc_law (fun vs H Q E h => ar1 h) (fun cdv A fr s H vs Q E hr hc h => ⟨_, PSs.nox (pss_cons (ps_for PassesOwn.never rfl (pi_range1 (by rfl) T.n_range (pa_cons (pe_callB (call_max2 rfl) (by rfl) T.n_max (by decide +kernel) (pa_cons pe_int (pa_cons (pe_callB (call_min2 rfl) (by rfl) T.n_min (by decide +kernel) (pa_cons pe_int (pa_cons (pe_callB (r := rLenQ K) call_lenQ (by rfl) T.n_len (by decide +kernel) (pa_cons (pv 0) pa_nil)) pa_nil))) pa_nil))) pa_nil)) (pg_name (i := 1) sc_law.nd rfl (.inl rfl)) (pss_cons (ps_set (i := 2) sc_law.nd rfl (.inl rfl) (pe_callG (ok_L_wound T) (hr.mono (by decide)) hc (by rfl) T.g_L_wound T.F_L_wound.kp T.b_L_wound .nil passL (pa_cons (pv 0) (pa_cons (pv 1) pa_nil)))) (pss_one (ps_for PassesOwn.never rfl (pi_range1 (by rfl) T.n_range (pa_cons pe_int pa_nil)) (pg_name (i := 3) sc_law.nd rfl (.inl rfl)) (pss_cons (ps_par (i := 4) (j := 5) (by rfl) sc_law.nd rfl rfl (by decide) rfl rfl (pa_cons (pe_op op_add pe_int (pe_callG (ok_L_spin T) (hr.mono (by decide)) hc (by rfl) T.g_L_spin T.F_L_spin.kp T.b_L_spin .nil passL (pa_cons (pv 2) (pa_cons pe_int pa_nil)))) (pa_cons (pe_op op_add pe_int (pe_callG (ok_L_spin T) (hr.mono (by decide)) hc (by rfl) T.g_L_spin T.F_L_spin.kp T.b_L_spin .nil passL (pa_cons (pv 2) (pa_cons pe_int pa_nil)))) pa_nil)) (by rfl)) (pss_one (ps_if (pt_cmpR op_ne (pe_callG (ok_least_steps T) hr hc (by rfl) T.g_least_steps T.F_least_steps.kp T.b_least_steps .nil passL (pa_cons (pv 4) (pa_cons (pv 5) pa_nil))) (pe_callG (ok_L_fewest T) (hr.mono (by decide)) hc (by rfl) T.g_L_fewest T.F_L_fewest.kp T.b_L_fewest .nil passL (pa_cons (pv 4) (pa_cons (pv 5) pa_nil))) (nomark _)) (pss_one (ps_ret pe_bl)) pss_nil))))))) (pss_one (ps_ret (pe_chain op_eq op_eq (pe_callG (ok_L_fewest T) (hr.mono (by decide)) hc (by rfl) T.g_L_fewest T.F_L_fewest.kp T.b_L_fewest .nil passL (pa_cons pe_int (pa_cons pe_int pa_nil))) pe_int (pe_callG (ok_least_steps T) hr hc (by rfl) T.g_least_steps T.F_least_steps.kp T.b_least_steps .nil passL (pa_cons pe_int (pa_cons pe_int pa_nil))))))), ?_⟩)
  obtain ⟨_, rfl, a, ns, rfl, hS, hl, q⟩ := h
  walk_at "rd"
  apply for_rng1 (if ns.length = 0 then 1 else min 2 ns.length) (Pv := fun i σ H' => Ex H H' ∧ ∃ x y z u v, σ = [some (.ref a), x, y, z, u, v])
  · intro R q
    walk_at "rd"
    refine ⟨_, .inl hS, ?_⟩
    exact q
  · rw [List.length_map]; split <;> split <;> split <;> omega
  · rw [List.length_map]; split <;> split <;> omega
  · exact ⟨Evl.Ex.refl _, _, _, _, _, _, rfl⟩
  · rintro σ H3 ⟨e3, x, y, z, u, v, rfl⟩
    walk_at "rd"
    unfold sp_least_steps sp_L_fewest
    walk_at "rd"
    have v1 : tz 5 2 = 6 := by decide +kernel
    have v2 : tzT 5 2 = 6 := by decide +kernel
    rw [v1, v2]
    intro H4 e4
    rw [if_pos rfl]
    intro H5 e5
    exact q _
  · rintro i σ H3 hi ⟨e3, x, y, z, u, v, rfl⟩
    walk_at "rd"
    unfold sp_L_wound
    walk_at "rd"
    refine ⟨_, _, rfl, Evl.ex_l e3 hS, hl, by split at hi <;> omega, fun r H4 hr4 e4 R4 => ?_⟩
    refine for_rng1 2 (fun R q => by walk_at "rd"; exact q) rfl (by omega) (fun j σ H' => Mo r H4 H' ∧ Reel H' r (2 * j) ∧ ∃ x y u v, σ = [some (.ref a), x, some (.ref r), y, u, v]) ⟨Mo.refl _ _, by simpa using R4, _, _, _, _, rfl⟩ ?_ ?_
    · rintro σ H5 ⟨o5, _, x, y, u, v, rfl⟩
      walk_at "rd"
      exact Mo.ex_new (e3.trans e4) (Evl.fresh_back e3 hr4) o5
    · rintro j σ H5 hj ⟨o5, R5, x, y, u, v, rfl⟩
      walk_at "rd"
      unfold sp_L_spin
      walk_at "rd"
      refine ⟨_, R5, by omega, fun c H6 c1 c2 o6 R6 => ⟨_, R6, by omega, fun d H7 d1 d2 o7 R7 => ?_⟩⟩
      unfold sp_least_steps sp_L_fewest
      walk_at "rd"
      refine ⟨by omega, by omega, by omega, by omega, fun H8 e8 => ?_⟩
      refine ⟨by omega, by omega, by omega, by omega, fun H9 e9 => ?_⟩
      rw [tz_T (by omega) (by omega) (by omega) (by omega)]
      simp only [eq_self, not_true_eq_false, if_false, ite_false, ↓reduceIte]
      refine ⟨((o5.trans o6).trans o7).trans (Mo.ex (e8.trans e9)), ?_⟩
      rw [show (2 : Int) * ((j + 1 : Nat) : Int) = 2 * (j : Int) + 1 + 1 by omega]
      exact R7.ex (e8.trans e9)
end
def d_is_int : He.DefD := ⟨("is_int", none), "is_int", "is_int", defArgs s_is_int, defBody s_is_int, defScope s_is_int, [], []⟩
def d_is_whole : He.DefD := ⟨("is_whole", none), "is_whole", "is_whole", defArgs s_is_whole, defBody s_is_whole, defScope s_is_whole, [], []⟩
def d_require_length : He.DefD := ⟨("require_length", none), "require_length", "require_length", defArgs s_require_length, defBody s_require_length, defScope s_require_length, [], []⟩
def d_require_slots : He.DefD := ⟨("require_slots", none), "require_slots", "require_slots", defArgs s_require_slots, defBody s_require_slots, defScope s_require_slots, [], []⟩
def d_require_task : He.DefD := ⟨("require_task", none), "require_task", "require_task", defArgs s_require_task, defBody s_require_task, defScope s_require_task, [], []⟩
def d_reach_of : He.DefD := ⟨("reach_of", none), "reach_of", "reach_of", defArgs s_reach_of, defBody s_reach_of, defScope s_reach_of, [], []⟩
def d_rounds_of : He.DefD := ⟨("rounds_of", none), "rounds_of", "rounds_of", defArgs s_rounds_of, defBody s_rounds_of, defScope s_rounds_of, [], []⟩
def d_steps_with : He.DefD := ⟨("steps_with", none), "steps_with", "steps_with", defArgs s_steps_with, defBody s_steps_with, defScope s_steps_with, [], []⟩
def d_least_of : He.DefD := ⟨("least_of", none), "least_of", "least_of", defArgs s_least_of, defBody s_least_of, defScope s_least_of, [], []⟩
def d_least_steps : He.DefD := ⟨("least_steps", none), "least_steps", "least_steps", defArgs s_least_steps, defBody s_least_steps, defScope s_least_steps, [], []⟩
def d_L_wound : He.DefD := ⟨("_law_wound", none), "_law_wound", "_law_wound", defArgs s_L_wound, defBody s_L_wound, defScope s_L_wound, [], []⟩
def d_L_spin : He.DefD := ⟨("_law_spin", none), "_law_spin", "_law_spin", defArgs s_L_spin, defBody s_L_spin, defScope s_L_spin, [], []⟩
def d_L_next : He.DefD := ⟨("_law_next", none), "_law_next", "_law_next", defArgs s_L_next, defBody s_L_next, defScope s_L_next, [], []⟩
def d_L_fewest : He.DefD := ⟨("_law_fewest", none), "_law_fewest", "_law_fewest", defArgs s_L_fewest, defBody s_L_fewest, defScope s_L_fewest, [], []⟩
def d_law : He.DefD := ⟨("law", none), "law", "law", defArgs s_law, defBody s_law, defScope s_law, [], []⟩
def fn : List He.DefD := [d_is_int, d_is_whole, d_require_length, d_require_slots, d_require_task, d_reach_of, d_rounds_of, d_steps_with, d_least_of, d_least_steps, d_L_wound, d_L_spin, d_L_next, d_L_fewest, d_law]
def fa : List He.Fa := [.glo "is_int", .glo "is_whole", .glo "require_length", .glo "require_slots", .glo "require_task", .glo "reach_of", .glo "rounds_of", .glo "steps_with", .glo "least_of", .glo "least_steps", .glo "_law_wound", .glo "_law_spin", .glo "_law_next", .glo "_law_fewest", .glo "law", .free "isinstance", .free "int", .free "bool", .free "range", .free "len", .free "max", .free "tuple", .free "sorted", .free "enumerate", .free "min", .int "MOST_LENGTH" (1000000000000000000000000000000), .int "MOST_SLOTS" (100)]
abbrev RowR : PySem.W.OpenRow := PySem.W.OpenLaw.row PySem.Challenge.rw_backslots_k05_least_steps_by_all_lists
def cs : List (PySem.W.Frag → Bool) := [errIB [7, 8, 17], sysB]
abbrev hk : PySem.W.Hook := hookX 6 cs fa fn
def ob (s : PySem.W.SharedT) : Bool × He.AlD := obX 6 cs fa fn (HandSHeadRun.getT s)
theorem ob_eq (s : PySem.W.SharedT) : ob s = hk.obs s.abs := obX_eq (HandSHeadRun.getT_eq s)
def loose : List Str := (["is_int", "is_whole", "SlotError", "InvalidLength", "InvalidSlots", "MOST_LENGTH", "MOST_SLOTS", "require_length", "require_slots", "require_task", "reach_of", "rounds_of", "steps_with", "least_of", "least_steps", "_law_wound", "_law_spin", "_law_next", "_law_fewest"] : List Str)
theorem run (w : World) : HandSHeadRun.RunEq RowR (PySem.W.view RowR.prog [24]) hk ob 40000 loose w := by
  intro os
  kernel_rfl
theorem facts {P : Program} {w : World} {K : PySem.W.Frag} {h : Heap} {mg : Str → Option Value} {f : Addr} (X : K.In h) (G : h.Ns mainGlobals mg) (hfa : mg ("law" : Str) = some (.ref f)) (c0 : (cs.all fun c => c K) = true) (c : He.SaysD fa fn K) :
    ∃ fd : FuncData, (∀ (s : Shared) (v : Value), BindsTo s fd ⟨[v], []⟩ [("_law_script", v)]) ∧ ∀ base : Heap, K.In base → base.Ns mainGlobals mg → GOk P w K mg base (L2.CX P w) 6 f fd ["_law_script"] (sp_law K) := by
  obtain ⟨fd_is_int, F_is_int⟩ := c.def_ 0 (d := d_is_int) rfl
  have b_is_int : Binds K fd_is_int ["value"] [] := F_is_int.bindsN fun _ _ _ _ _ _ us hl => match us, hl with | [_], _ => rfl
  obtain ⟨fd_is_whole, F_is_whole⟩ := c.def_ 1 (d := d_is_whole) rfl
  have b_is_whole : Binds K fd_is_whole ["value", "low", "high"] [] := F_is_whole.bindsN fun _ _ _ _ _ _ us hl => match us, hl with | [_, _, _], _ => rfl
  obtain ⟨fd_require_length, F_require_length⟩ := c.def_ 2 (d := d_require_length) rfl
  have b_require_length : Binds K fd_require_length ["value"] [] := F_require_length.bindsN fun _ _ _ _ _ _ us hl => match us, hl with | [_], _ => rfl
  obtain ⟨fd_require_slots, F_require_slots⟩ := c.def_ 3 (d := d_require_slots) rfl
  have b_require_slots : Binds K fd_require_slots ["value"] [] := F_require_slots.bindsN fun _ _ _ _ _ _ us hl => match us, hl with | [_], _ => rfl
  obtain ⟨fd_require_task, F_require_task⟩ := c.def_ 4 (d := d_require_task) rfl
  have b_require_task : Binds K fd_require_task ["length", "slots"] [] := F_require_task.bindsN fun _ _ _ _ _ _ us hl => match us, hl with | [_, _], _ => rfl
  obtain ⟨fd_reach_of, F_reach_of⟩ := c.def_ 5 (d := d_reach_of) rfl
  have b_reach_of : Binds K fd_reach_of ["slots", "rounds"] [] := F_reach_of.bindsN fun _ _ _ _ _ _ us hl => match us, hl with | [_, _], _ => rfl
  obtain ⟨fd_rounds_of, F_rounds_of⟩ := c.def_ 6 (d := d_rounds_of) rfl
  have b_rounds_of : Binds K fd_rounds_of ["length", "slots"] [] := F_rounds_of.bindsN fun _ _ _ _ _ _ us hl => match us, hl with | [_, _], _ => rfl
  obtain ⟨fd_steps_with, F_steps_with⟩ := c.def_ 7 (d := d_steps_with) rfl
  have b_steps_with : Binds K fd_steps_with ["length", "slots", "rounds"] [] := F_steps_with.bindsN fun _ _ _ _ _ _ us hl => match us, hl with | [_, _, _], _ => rfl
  obtain ⟨fd_least_of, F_least_of⟩ := c.def_ 8 (d := d_least_of) rfl
  have b_least_of : Binds K fd_least_of ["length", "slots"] [] := F_least_of.bindsN fun _ _ _ _ _ _ us hl => match us, hl with | [_, _], _ => rfl
  obtain ⟨fd_least_steps, F_least_steps⟩ := c.def_ 9 (d := d_least_steps) rfl
  have b_least_steps : Binds K fd_least_steps ["length", "slots"] [] := F_least_steps.bindsN fun _ _ _ _ _ _ us hl => match us, hl with | [_, _], _ => rfl
  obtain ⟨fd_L_wound, F_L_wound⟩ := c.def_ 10 (d := d_L_wound) rfl
  have b_L_wound : Binds K fd_L_wound ["_law_script", "_law_k"] [] := F_L_wound.bindsN fun _ _ _ _ _ _ us hl => match us, hl with | [_, _], _ => rfl
  obtain ⟨fd_L_spin, F_L_spin⟩ := c.def_ 11 (d := d_L_spin) rfl
  have b_L_spin : Binds K fd_L_spin ["_law_reel", "_law_many"] [] := F_L_spin.bindsN fun _ _ _ _ _ _ us hl => match us, hl with | [_, _], _ => rfl
  obtain ⟨fd_L_next, F_L_next⟩ := c.def_ 12 (d := d_L_next) rfl
  have b_L_next : Binds K fd_L_next ["_law_n", "_law_s", "_law_at"] [] := F_L_next.bindsN fun _ _ _ _ _ _ us hl => match us, hl with | [_, _, _], _ => rfl
  obtain ⟨fd_L_fewest, F_L_fewest⟩ := c.def_ 13 (d := d_L_fewest) rfl
  have b_L_fewest : Binds K fd_L_fewest ["_law_n", "_law_s"] [] := F_L_fewest.bindsN fun _ _ _ _ _ _ us hl => match us, hl with | [_, _], _ => rfl
  obtain ⟨fd_law, F_law⟩ := c.def_ 14 (d := d_law) rfl
  have b_law : Binds K fd_law ["_law_script"] [] := F_law.bindsN fun _ _ _ _ _ _ us hl => match us, hl with | [_], _ => rfl
  have e := hfa.symm.trans (He.glo_ok X G (c.fact 14 (f := .glo "law") rfl))
  cases e
  obtain ⟨t_MOST_LENGTH, c_MOST_LENGTH⟩ := He.int_ok X G (c.fact 25 (f := .int "MOST_LENGTH" (1000000000000000000000000000000)) rfl)
  obtain ⟨t_MOST_SLOTS, c_MOST_SLOTS⟩ := He.int_ok X G (c.fact 26 (f := .int "MOST_SLOTS" (100)) rfl)
  have b := FunD.bindsA (ps := ["_law_script"]) F_law fun _ _ _ _ _ _ us hl => match us, hl with | [_], _ => rfl
  exact ⟨fd_law, fun s v => b s [v] rfl, fun base _ _ => ok_law ⟨_,
    fd_is_int,
    F_is_int,
    b_is_int,
    He.glo_ok X G (c.fact 0 (f := .glo "is_int") rfl),
    _,
    fd_is_whole,
    F_is_whole,
    b_is_whole,
    He.glo_ok X G (c.fact 1 (f := .glo "is_whole") rfl),
    _,
    fd_require_length,
    F_require_length,
    b_require_length,
    He.glo_ok X G (c.fact 2 (f := .glo "require_length") rfl),
    _,
    fd_require_slots,
    F_require_slots,
    b_require_slots,
    He.glo_ok X G (c.fact 3 (f := .glo "require_slots") rfl),
    _,
    fd_require_task,
    F_require_task,
    b_require_task,
    He.glo_ok X G (c.fact 4 (f := .glo "require_task") rfl),
    _,
    fd_reach_of,
    F_reach_of,
    b_reach_of,
    He.glo_ok X G (c.fact 5 (f := .glo "reach_of") rfl),
    _,
    fd_rounds_of,
    F_rounds_of,
    b_rounds_of,
    He.glo_ok X G (c.fact 6 (f := .glo "rounds_of") rfl),
    _,
    fd_steps_with,
    F_steps_with,
    b_steps_with,
    He.glo_ok X G (c.fact 7 (f := .glo "steps_with") rfl),
    _,
    fd_least_of,
    F_least_of,
    b_least_of,
    He.glo_ok X G (c.fact 8 (f := .glo "least_of") rfl),
    _,
    fd_least_steps,
    F_least_steps,
    b_least_steps,
    He.glo_ok X G (c.fact 9 (f := .glo "least_steps") rfl),
    _,
    fd_L_wound,
    F_L_wound,
    b_L_wound,
    He.glo_ok X G (c.fact 10 (f := .glo "_law_wound") rfl),
    _,
    fd_L_spin,
    F_L_spin,
    b_L_spin,
    He.glo_ok X G (c.fact 11 (f := .glo "_law_spin") rfl),
    _,
    fd_L_next,
    F_L_next,
    b_L_next,
    He.glo_ok X G (c.fact 12 (f := .glo "_law_next") rfl),
    _,
    fd_L_fewest,
    F_L_fewest,
    b_L_fewest,
    He.glo_ok X G (c.fact 13 (f := .glo "_law_fewest") rfl),
    _,
    fd_law,
    F_law,
    b_law,
    He.glo_ok X G (c.fact 14 (f := .glo "law") rfl),
    He.free_ok X G (c.fact 15 (f := .free "isinstance") rfl),
    He.free_ok X G (c.fact 16 (f := .free "int") rfl),
    He.free_ok X G (c.fact 17 (f := .free "bool") rfl),
    He.free_ok X G (c.fact 18 (f := .free "range") rfl),
    He.free_ok X G (c.fact 19 (f := .free "len") rfl),
    He.free_ok X G (c.fact 20 (f := .free "max") rfl),
    He.free_ok X G (c.fact 21 (f := .free "tuple") rfl),
    He.free_ok X G (c.fact 22 (f := .free "sorted") rfl),
    He.free_ok X G (c.fact 23 (f := .free "enumerate") rfl),
    He.free_ok X G (c.fact 24 (f := .free "min") rfl),
    t_MOST_LENGTH,
    c_MOST_LENGTH,
    t_MOST_SLOTS,
    c_MOST_SLOTS,
    errI_ok X G (List.all_eq_true.mp c0 _ (List.mem_of_getElem? (i := 0) rfl)),
    List.all_eq_true.mp c0 _ (List.mem_of_getElem? (i := 1) rfl)⟩⟩
end Bs
open PySem PySem.W PySem.Calls PyProof.Rows
theorem PySem.Challenge.cw_backslots_k05_least_steps_by_all_lists_holds : PySem.Challenge.rw_backslots_k05_least_steps_by_all_lists.Holds := by
  w_on; o_law
  refine HandSHeadRun.head_any (r := OpenLaw.row PySem.Challenge.rw_backslots_k05_least_steps_by_all_lists) (q := view (OpenLaw.row PySem.Challenge.rw_backslots_k05_least_steps_by_all_lists).prog [24]) (H := Bs.hk) (ob := Bs.ob) (M := 40000) (loose := Bs.loose) (d := HandSHeadRun.topDef (OpenLaw.row PySem.Challenge.rw_backslots_k05_least_steps_by_all_lists).prog 24) (kwd := []) Bs.ob_eq
    (by kernel_rfl) (fun s => by kernel_rfl) Bs.run (by kernel_rfl) (by kernel_rfl) (by kernel_rfl) (by rfl) (by first | assumption | decide +kernel) (by decide +kernel) ⟨rfl, rfl, rfl, rfl, rfl, by decide +kernel⟩ ?hw ?hc
  case hw => w_witness2
  case hc =>
    refine Bs.walk_g (l := PySem.Challenge.rw_backslots_k05_least_steps_by_all_lists) (n := 63) (k := 6) (x := "_law_script") rfl (by decide) (by kernel_rfl) ⟨rfl, by decide, by decide⟩ ?F
    intro w mg fa h Y G hmg0
    obtain ⟨K, KX, c0, c⟩ := Y
    have hmg : mg ("law" : PySem.Str) = some (.ref fa) := by
      have e : (HandSHeadRun.topDef (OpenLaw.row PySem.Challenge.rw_backslots_k05_least_steps_by_all_lists).prog 24).name = ("law" : PySem.Str) := by kernel_rfl
      rw [← e]
      exact hmg0
    obtain ⟨fd, hb, hF⟩ := Bs.facts (P := (PySem.Challenge.rw_backslots_k05_least_steps_by_all_lists).prog) (w := w) KX G hmg c0 c
    exact ⟨K, fd, Bs.sp_law K, KX, hb, fun H a ns hl hO hS => Bs.law_in hl hS fun _ => rfl, hF⟩
