import PyProof.Rows.All
import Wide.All
import OpenK.AllK
import Wide.FinOn
import KE.KStateDown
import Lean
import HandS.ForMost
import HandS.Exc
import HandS.TryOnly
import HandS.ExcOwn
import HandS.WordsExc
import HandS.Wide
import HandS.IsInst
import HandS.Evl
import HandS.SortInts
import HandS.Small
import HandS.Style
import PyProof.MaxThree
import HandS.Defaults
import HandS.Head0
import HandS.Head1
import HandS.Head2
import HandS.HeadEnd
import HandS.HeadHook1
import HandS.HeadHook2
import PyProof.ReprRoads
import HandS.Walk
import HandS.Star
import HandS.Conv
import HandS.Dict
import HandS.ListItems
import HandS.SortRule
import HandS.ExcIs
import HandS.ExcField
import HandS.ExcValue
import KE.KExcIs
import HandS.ExcInit
import HandS.Property
import HandS.Remove
import PySem.Challenge.RW_backslots_k06_times_of_steps
set_option Elab.async false
set_option linter.all false
set_option maxRecDepth 100000
set_option maxHeartbeats 4000000
namespace Bs
open PySem PySem.Spec PyProof.Rows L2
open Evl (Ex)

/-! ### a def without defaults -/
abbrev FnP (K : PySem.W.Frag) (x q : Str) (st : Stmt) (f : Addr) (fd : FuncData) : Prop := FunD K x q (defArgs st) (defBody st) (defScope st) [] [] f fd

/-! ### heaps that grow -/
theorem exn {H : Hp} {p : Addr} {o : HO} (h : H p = none) : Ex H (upd H p o) := Ex.new h
theorem dp_ex {K : PySem.W.Frag} {H H' : Hp} (e : Ex H H') : ∀ (d : PyData) (v : V), Dp K H v d → Dp K H' v d
  | .none, _, .non => .non
  | .bool _, _, .bl b => .bl b
  | .int _, _, .int i => .int i
  | .str _, _, .str x => .str x
  | .list ds, _, .lst h a => .lst (Evl.ex_l e h) (go ds _ a)
  | .tuple ds, _, .tup h a => .tup (Evl.ex_t e h) (go ds _ a)
where go : ∀ (ds : List PyData) (vs : List V), DpAll K H vs ds → DpAll K H' vs ds
  | [], _, .nil => .nil
  | d :: ds, _, .cons h r => .cons (dp_ex e d _ h) (go ds _ r)

/-! ### defs called where no repr is under way -/
abbrev Clean (A : Around) : Prop := A.guards = some []
/-- as FnOk, where no repr is under way -/
structure GOk (P : Program) (w : World) (K : PySem.W.Frag) (mg : Str → Option Value) (base : Heap)
    (C : CXT) (k : Nat) (f : Addr) (fd : FuncData) (ps : List Str) (sp : Sp) : Prop where
  arity : ∀ vs H Q E, sp vs H Q E → vs.length = ps.length
  go : ∀ (A : Around) (fr : List Env) (s : Shared) (H : Hp) (args : Args) (us : List Value) (vs : List V) (Q : VK) (E : XK),
    Room k A → Clean A → Env0 P w K mg base A fr s H → BindsTo s fd args (ps.zip us) → Vals vs us →
    sp vs H Q E → codeAny (model P w) A (.call (.ref f) args) (CR C fr P w H s Q E) s
section
variable {P : Program} {w : World} {K : PySem.W.Frag} {mg : Str → Option Value} {base : Heap} {C : CXT} {k j : Nat}
  {f : Addr} {fd : FuncData} {ps N : List Str} {sp sp' : Sp}
theorem GOk.up (F : GOk P w K mg base C j f fd ps sp) (h : j ≤ k) : GOk P w K mg base C k f fd ps sp :=
  ⟨F.arity, fun A fr s H args us vs Q E r => F.go A fr s H args us vs Q E (r.mono h)⟩
theorem GOk.weak (F : GOk P w K mg base C k f fd ps sp) (h : ∀ vs H Q E, sp' vs H Q E → sp vs H Q E) : GOk P w K mg base C k f fd ps sp' :=
  ⟨fun vs H Q E q => F.arity vs H Q E (h _ _ _ _ q), fun A fr s H args us vs Q E r g e b v q => F.go A fr s H args us vs Q E r g e b v (h _ _ _ _ q)⟩
/-- a def by its body, no repr under way -/
theorem gok_of {name qual : Str} {pr : Arguments} {body : List Stmt} {scope : Scope} {dV kV doc pm cdv ct oc : Value} {an od : Option Addr} {osl : Array (Option Value)}
    (lk : K.lookup f = some ⟨oc, od, .func (PySem.W.fnOf name qual pr body scope dV kV doc pm an cdv ct), osl⟩)
    (hcd : PySem.W.codeIn K cdv qual = true) (S : FnScope N ps scope)
    (ar : ∀ vs H Q E, sp vs H Q E → vs.length = ps.length)
    (hb : ∀ (A : Around) (fr : List Env) (s : Shared) (H : Hp) (vs : List V) (Q : VK) (E : XK),
      Room k (A.deeper (envOfC qual scope s.heap.objs.size f cdv)) → Clean A → sp vs H Q E →
      ∃ t, PSs (cxOf C P w K mg base N qual scope f cdv A fr s H E) body t ∧
        t { nx := fun _ H' => Q .non H', rt := Q } (start N vs) H) :
    GOk P w K mg base C (k + 1) f (PySem.W.fnOf name qual pr body scope dV kV doc pm an cdv ct) ps sp := by
  refine ⟨ar, ?_⟩
  intro A fr s H args us vs Q E hr hg e0 bd rv hsp
  have in0 : ∀ b o, base.get? b = some o → s.heap.get? b = some o := fun b o e => (e0.bs b o e).1
  have inK : K.In s.heap := e0.mod.kin.keeps in0
  refine codeAny_call_function hr.depth (inK _ _ lk) rfl S.co S.gen rfl (PySem.W.codeRec_of inK hcd) (bd _ _ _ _ ?_)
  have kinds : ∀ y ∈ ps.zip us, scope.names.lookup y.1 = some .local ∨
      (scope.names.lookup y.1 = some .cell ∧ ((cellsFrom (s.heap.objs.size + 1) scope.names []).lookup y.1).isSome = true) := by
    rintro ⟨n, v⟩ hy
    exact (S.par n (List.of_mem_zip hy).1).imp id fun q => ⟨q, PySem.W.cellsFrom_some _ _ _ (.inl q)⟩
  refine wpAny_newFunctionEnv_cells S.kind kinds ?_
  intro env he s1 x
  subst he
  refine ⟨(e0.mod.nolimit.keeps in0).keeps x.toInCall.keep, codeAny_func ?_⟩
  obtain ⟨t, ht, hq⟩ := hb A fr s H vs Q E (hr.deeper _) hg hsp
  have I0 := inv_start (CX := C) (E := E) S hr.hd e0 (ar _ _ _ _ hsp) rv x
  refine wpAny_mono (ht.run [] s1 (start N vs) H _ I0 hq) ?_ (fun _ _ z => z)
  intro fl s' z
  cases fl with
  | next => obtain ⟨_, H', J, q⟩ := z; exact ⟨.non, H', J.os, J.bare, J.base, J.hok, rfl, q⟩
  | ret u => obtain ⟨v, _, H', J, r, q⟩ := z; exact ⟨v, H', J.os, J.bare, J.base, J.hok, r, q⟩
  | brk => exact z.elim fun _ z => z.elim fun _ z => z.2.elim
  | cont => exact z.elim fun _ z => z.elim fun _ z => z.2.elim
theorem FunD.gok {x qual : Str} {pr : Arguments} {body : List Stmt} {scope : Scope} {dvs : List V} {kws : List (Str × V)}
    (F : FunD K x qual pr body scope dvs kws f fd) (S : FnScope N ps scope) (ar : ∀ vs H Q E, sp vs H Q E → vs.length = ps.length)
    (hb : ∀ (cdv : Value) (A : Around) (fr : List Env) (s : Shared) (H : Hp) (vs : List V) (Q : VK) (E : XK),
      Room k (A.deeper (envOfC qual scope s.heap.objs.size f cdv)) → Clean A → sp vs H Q E →
      ∃ t, PSs (cxOf C P w K mg base N qual scope f cdv A fr s H E) body t ∧
        t { nx := fun _ H' => Q .non H', rt := Q } (start N vs) H) :
    GOk P w K mg base C (k + 1) f fd ps sp := by
  obtain ⟨oc, od, dV, kV, doc, pm, an, cdv, ct, osl, rfl, lk, hcd, _, _⟩ := F.ex
  exact gok_of lk hcd S ar (hb cdv)
end
section
variable {X : Cx} {C : CXT} {k : Nat} {f Cl : Addr} {fd : FuncData} {ps : List Str} {sp : Sp} {dvs : List V} {ds : List Value} {E : XK}
  {x m : Str} {p pos apos : Pos} {e o : Expr} {es : List Expr} {ta : TE} {t : TA}
/-- the callee runs, no repr under way -/
theorem run_g {pins : List (Addr × Obj)} {σ : L2.St} {H : Hp} {s : Shared} {Q : VK} {us : List Value} {vs : List V}
    (F : GOk X.prog X.w X.K X.mg X.base C k f fd ps sp) (hr : Room k X.A) (hc : Clean X.A) (hb : Binds X.K fd ps ds) (hd : Vals dvs ds)
    (hx : Passes C X E) (I : Inv X pins σ H s) (r : Vals vs us) (h : sp (vs ++ dvs) H Q E) :
    wpAny (model X.prog X.w) X.A (call (.ref f) us) (EP X pins σ Q) X.xe s := by
  have rr := r.append hd
  have len : (us ++ ds).length = ps.length := rr.length ▸ F.arity _ _ _ _ h
  have one := F.go X.A X.stack s H ⟨us, []⟩ (us ++ ds) (vs ++ dvs) Q E hr hc I.env0 (hb s us I.kIn len) rr h
  refine wpAny_call (codeAny_mono one ?_)
  rintro (e | fl) s' z
  · exact hx pins σ H s e s' I z
  · cases fl with
    | ret u => exact I.after z
    | _ => exact z.elim
theorem pe_callG (F : GOk X.prog X.w X.K X.mg X.base C k f fd ps sp) (hr : Room k X.A) (hc : Clean X.A) (hg : Gl X x) (hm : X.mg x = some (.ref f))
    (hk : PySem.W.keepIn X.K (.ref f) = true) (hb : Binds X.K fd ps ds) (hd : Vals dvs ds) (hx : Passes C X E) (ha : PA X (e :: es) t)
    (hdb : (x == ("__debug__" : Str)) = false := by decide)
    (he : starEach (e :: es) X.env = (false, eval e X.env) :: starEach es X.env := by rfl)
    (hpl : (backTo pos (starEach es X.env)).any (·.1) = false := by rfl) :
    PE X (.Call (.Name x p) (e :: es) [] pos) (tCall sp dvs E t) :=
  ⟨fun pins s σ H Q I h => wpAny_Call_Name_kw (ld_glob I hg hm (PySem.W.callWith_K (h₀ := X.base) I.ok.mod.kin hk
    (thn (ha.run pos pins s σ H _ I h) fun _ _ ⟨_, _, I1, r, q⟩ => ⟨I1.kIn, run_g F hr hc hb hd hx I1 r q⟩) he hpl) hdb)⟩
theorem pe_callG0 (F : GOk X.prog X.w X.K X.mg X.base C k f fd ps sp) (hr : Room k X.A) (hc : Clean X.A) (hg : Gl X x) (hm : X.mg x = some (.ref f))
    (hk : PySem.W.keepIn X.K (.ref f) = true) (hb : Binds X.K fd ps ds) (hd : Vals dvs ds) (hx : Passes C X E)
    (hdb : (x == ("__debug__" : Str)) = false := by decide) : PE X (.Call (.Name x p) [] [] pos) (tCall sp dvs E tNil) :=
  ⟨fun pins s σ H Q I h => wpAny_Call_Name_kw (ld_glob I hg hm (PySem.W.callWith_K0 I.kIn hk (run_g (us := []) F hr hc hb hd hx I .nil h)) hdb)⟩
end

/-! ### data whose text is no matter -/
mutual
def fine : Nat → PyData → Bool
  | _, .none => true
  | _, .bool _ => true
  | _, .int i => decide (i.natAbs.log2 < 1900)
  | _, .str x => PyData.strOk x
  | n + 1, .list xs => fineAll n xs
  | n + 1, .tuple xs => fineAll n xs
  | 0, .list _ => false
  | 0, .tuple _ => false
  | _, .dict _ => false
def fineAll : Nat → List PyData → Bool
  | _, [] => true
  | n, x :: xs => fine n x && fineAll n xs
end
mutual
def sz : PyData → Nat
  | .none => 5
  | .bool _ => 5
  | .int _ => 2000
  | .str x => 10 * x.length + 2
  | .list xs => szAll xs + 3
  | .tuple xs => szAll xs + 3
  | .dict _ => 0
def szAll : List PyData → Nat
  | [] => 0
  | x :: xs => sz x + 2 + szAll xs
end
mutual
theorem fine_ok : ∀ (d : PyData) (n : Nat), fine n d = true → d.showable = true ∧ d.hasDict = false ∧ d.depth ≤ n ∧ d.shown.length ≤ sz d
  | .none, n, _ => ⟨rfl, rfl, Nat.zero_le _, by show Str.length (PyData.shown .none) ≤ 5; decide⟩
  | .bool b, n, _ => ⟨rfl, rfl, Nat.zero_le _, by cases b <;> (show Str.length (PyData.shown (.bool _)) ≤ 5; decide)⟩
  | .int i, n, h => by
    have h1 : i.natAbs.log2 < 1900 := by simpa only [fine, decide_eq_true_eq] using h
    refine ⟨by simp only [PyData.showable, decide_eq_true_eq]; omega, rfl, Nat.zero_le _, ?_⟩
    have h2 := int_text_length_le (k := 1900) (by decide) h1
    show (Str.ofString (toString i)).length ≤ 2000
    rw [PySem.ofString_length]
    omega
  | .str x, n, h => by
    have h1 : ∀ c ∈ x.cps.toList, c < 16 ^ 8 := by
      have h2 : x.cps.all (· < 0x110000) = true := by rw [fine] at h; exact h
      rw [← Array.all_toList, List.all_eq_true] at h2
      intro c hc
      have := of_decide_eq_true (h2 c hc)
      omega
    exact ⟨rfl, rfl, Nat.zero_le _, StrLaws.reprText_len x h1⟩
  | .list xs, n + 1, h => by
    obtain ⟨h1, h2, h3, h4⟩ := fineAll_ok xs n (by simpa only [fine] using h)
    refine ⟨by simpa only [PyData.showable] using h1, by simpa only [PyData.hasDict] using h2, by simp only [PyData.depth]; omega, ?_⟩
    have := listText_len_le (PyData.shownAll xs)
    simp only [PyData.shown, sz]
    omega
  | .tuple xs, n + 1, h => by
    obtain ⟨h1, h2, h3, h4⟩ := fineAll_ok xs n (by simpa only [fine] using h)
    refine ⟨by simpa only [PyData.showable] using h1, by simpa only [PyData.hasDict] using h2, by simp only [PyData.depth]; omega, ?_⟩
    have := tupleText_len_le (PyData.shownAll xs)
    simp only [PyData.shown, sz]
    omega
  | .list _, 0, h => by simp [fine] at h
  | .tuple _, 0, h => by simp [fine] at h
  | .dict _, n, h => by cases n <;> simp [fine] at h
theorem fineAll_ok : ∀ (xs : List PyData) (n : Nat), fineAll n xs = true → PyData.showableAll xs = true ∧ PyData.hasDictAll xs = false ∧ PyData.depthAll xs ≤ n ∧ ((PyData.shownAll xs).map (·.length)).sum + 2 * (PyData.shownAll xs).length ≤ szAll xs
  | [], n, _ => ⟨rfl, rfl, Nat.zero_le _, by simp [PyData.shownAll, szAll]⟩
  | x :: xs, n, h => by
    obtain ⟨ha, hb⟩ := Bool.and_eq_true_iff.mp (show (fine n x && fineAll n xs) = true by simpa only [fineAll] using h)
    obtain ⟨a1, a2, a3, a4⟩ := fine_ok x n ha
    obtain ⟨b1, b2, b3, b4⟩ := fineAll_ok xs n hb
    refine ⟨by simp only [PyData.showableAll, a1, b1, Bool.and_true], by simp only [PyData.hasDictAll, a2, b2, Bool.or_false], by simp only [PyData.depthAll]; omega, ?_⟩
    simp only [PyData.shownAll, szAll, List.map_cons, List.sum_cons, List.length_cons]
    omega
end
mutual
theorem fine_can : ∀ (d : PyData) (n : Nat), fine n d = true → d.canLay0 = true
  | .none, _, _ => rfl
  | .bool _, _, _ => rfl
  | .int _, _, _ => rfl
  | .str x, _, h => by rw [fine] at h; rw [PyData.canLay0]; exact h
  | .list xs, n + 1, h => by
    have := fineAll_can xs n (by simpa only [fine] using h)
    simpa only [PyData.canLay0] using this
  | .tuple xs, n + 1, h => by
    have := fineAll_can xs n (by simpa only [fine] using h)
    simpa only [PyData.canLay0] using this
  | .list _, 0, h => by simp [fine] at h
  | .tuple _, 0, h => by simp [fine] at h
  | .dict _, n, h => by cases n <;> simp [fine] at h
theorem fineAll_can : ∀ (xs : List PyData) (n : Nat), fineAll n xs = true → PyData.canLayAll0 xs = true
  | [], _, _ => rfl
  | x :: xs, n, h => by
    obtain ⟨ha, hb⟩ := Bool.and_eq_true_iff.mp (show (fine n x && fineAll n xs) = true by simpa only [fineAll] using h)
    simp only [PyData.canLayAll0, fine_can x n ha, fineAll_can xs n hb, Bool.and_self]
end
theorem fine_shaped {d : PyData} (h : fine 20 d = true) : SeqAt.shaped d = true := by
  unfold SeqAt.shaped
  rw [fine_can d 20 h, Bool.true_and, decide_eq_true_eq]
  have := (fine_ok d 20 h).2.2.1
  omega
/-! no bool in it -/
mutual
def nb : PyData → Bool
  | .bool _ => false
  | .dict _ => false
  | .list xs => nbAll xs
  | .tuple xs => nbAll xs
  | _ => true
def nbAll : List PyData → Bool
  | [] => true
  | x :: xs => nb x && nbAll xs
end
mutual
theorem eqv_nb : ∀ (d e : PyData), nb d = true → nb e = true → PyData.eqv d e = true → d = e
  | .none, .none, _, _, _ => rfl
  | .int i, .int j, _, _, h => by rw [PyData.eqv, beq_iff_eq] at h; rw [h]
  | .str x, .str y, _, _, h => by rw [PyData.eqv, beq_iff_eq] at h; rw [h]
  | .list xs, .list ys, h1, h2, h => by rw [eqvAll_nb xs ys (by simpa only [nb] using h1) (by simpa only [nb] using h2) (by simpa only [PyData.eqv] using h)]
  | .tuple xs, .tuple ys, h1, h2, h => by rw [eqvAll_nb xs ys (by simpa only [nb] using h1) (by simpa only [nb] using h2) (by simpa only [PyData.eqv] using h)]
  | .bool _, _, h1, _, _ => by simp [nb] at h1
  | .dict _, _, h1, _, _ => by simp [nb] at h1
  | .none, .bool _, _, _, h => by simp [PyData.eqv] at h
  | .none, .int _, _, _, h => by simp [PyData.eqv] at h
  | .none, .str _, _, _, h => by simp [PyData.eqv] at h
  | .none, .list _, _, _, h => by simp [PyData.eqv] at h
  | .none, .tuple _, _, _, h => by simp [PyData.eqv] at h
  | .none, .dict _, _, _, h => by simp [PyData.eqv] at h
  | .int _, .none, _, _, h => by simp [PyData.eqv] at h
  | .int _, .bool _, _, h2, _ => by simp [nb] at h2
  | .int _, .str _, _, _, h => by simp [PyData.eqv] at h
  | .int _, .list _, _, _, h => by simp [PyData.eqv] at h
  | .int _, .tuple _, _, _, h => by simp [PyData.eqv] at h
  | .int _, .dict _, _, _, h => by simp [PyData.eqv] at h
  | .str _, .none, _, _, h => by simp [PyData.eqv] at h
  | .str _, .bool _, _, _, h => by simp [PyData.eqv] at h
  | .str _, .int _, _, _, h => by simp [PyData.eqv] at h
  | .str _, .list _, _, _, h => by simp [PyData.eqv] at h
  | .str _, .tuple _, _, _, h => by simp [PyData.eqv] at h
  | .str _, .dict _, _, _, h => by simp [PyData.eqv] at h
  | .list _, .none, _, _, h => by simp [PyData.eqv] at h
  | .list _, .bool _, _, _, h => by simp [PyData.eqv] at h
  | .list _, .int _, _, _, h => by simp [PyData.eqv] at h
  | .list _, .str _, _, _, h => by simp [PyData.eqv] at h
  | .list _, .tuple _, _, _, h => by simp [PyData.eqv] at h
  | .list _, .dict _, _, _, h => by simp [PyData.eqv] at h
  | .tuple _, .none, _, _, h => by simp [PyData.eqv] at h
  | .tuple _, .bool _, _, _, h => by simp [PyData.eqv] at h
  | .tuple _, .int _, _, _, h => by simp [PyData.eqv] at h
  | .tuple _, .str _, _, _, h => by simp [PyData.eqv] at h
  | .tuple _, .list _, _, _, h => by simp [PyData.eqv] at h
  | .tuple _, .dict _, _, _, h => by simp [PyData.eqv] at h
theorem eqvAll_nb : ∀ (xs ys : List PyData), nbAll xs = true → nbAll ys = true → PyData.eqvAll xs ys = true → xs = ys
  | [], [], _, _, _ => rfl
  | [], _ :: _, _, _, h => by simp [PyData.eqvAll] at h
  | _ :: _, [], _, _, h => by simp [PyData.eqvAll] at h
  | x :: xs, y :: ys, h1, h2, h => by
    obtain ⟨a1, a2⟩ := Bool.and_eq_true_iff.mp (show (nb x && nbAll xs) = true by simpa only [nbAll] using h1)
    obtain ⟨b1, b2⟩ := Bool.and_eq_true_iff.mp (show (nb y && nbAll ys) = true by simpa only [nbAll] using h2)
    obtain ⟨c1, c2⟩ := Bool.and_eq_true_iff.mp (show (PyData.eqv x y && PyData.eqvAll xs ys) = true by simpa only [PyData.eqvAll] using h)
    rw [eqv_nb x y a1 b1 c1, eqvAll_nb xs ys a2 b2 c2]
end
theorem eqv_ne {d e : PyData} (h1 : nb d = true) (h2 : nb e = true) (h : d ≠ e) : PyData.eqv d e = false := by
  cases q : PyData.eqv d e with
  | false => rfl
  | true => exact absurd (eqv_nb d e h1 h2 q) h
theorem eqv_same {d : PyData} (h : fine 20 d = true) : PyData.eqv d d = true := SeqAt.eqv_refl _ (fine_can d 20 h)
theorem nbAll_ints : ∀ {ns : List Int}, nbAll (ns.map PyData.int) = true
  | [] => rfl
  | _ :: ns => by
    have := nbAll_ints (ns := ns)
    simp only [List.map_cons, nbAll, nb, this, Bool.and_self]
theorem fineAll_ints {n : Nat} : ∀ {ns : List Int}, (∀ i ∈ ns, i.natAbs.log2 < 1900) → fineAll n (ns.map PyData.int) = true
  | [], _ => by simp only [List.map_nil, fineAll]
  | i :: ns, h => by
    have h1 := h i List.mem_cons_self
    have h2 := fineAll_ints (n := n) (ns := ns) fun j hj => h j (List.mem_cons_of_mem _ hj)
    simp only [List.map_cons, fineAll, fine, h2, Bool.and_true, decide_eq_true_eq]
    exact h1
theorem szAll_ints : ∀ {ns : List Int}, szAll (ns.map PyData.int) = 2002 * ns.length
  | [] => by simp [szAll]
  | i :: ns => by
    have := szAll_ints (ns := ns)
    simp only [List.map_cons, szAll, sz, List.length_cons]
    omega

/-! ### rules -/
section
variable {X : Cx}
/-- a great number: a bound that no number here comes to -/
def BIG : Int := 2 ^ 100000
theorem big_200 : (10 : Int) ^ 200 ≤ BIG := by
  unfold BIG
  exact Int.le_trans (by decide : (10 : Int) ^ 200 ≤ 2 ^ 700) (Int.ofNat_le.mpr (Nat.pow_le_pow_right (by decide) (by decide : 700 ≤ 100000)))
theorem big_log {i : Int} (h : -BIG < i) (h2 : i < BIG) : i.natAbs.log2 < 100000 := by
  have e : i.natAbs < 2 ^ 100000 := by
    unfold BIG at h h2
    generalize hn : (2 : Nat) ^ 100000 = n at *
    have e : ((2 : Int) ^ 100000) = (n : Int) := by rw [← hn, Int.natCast_pow] <;> rfl
    rw [e] at h h2
    omega
  exact PySem.Flt.log2_lt_of (by decide) e
def CMulB (i j : Int) : Prop := (-BIG < i ∧ i < BIG) ∧ (-BIG < j ∧ j < BIG)
def CDivB (_ j : Int) : Prop := 0 < j ∧ j ≤ 10 ^ 200
theorem op_mulB : OpR X (binaryOp .Mult) (rI CMulB fun i j => .int (i * j)) := opI fun i j _ _ _ _ _ hc q => by
  refine mul_int q (CMulW.ok ?_)
  have h1 := big_log hc.1.1 hc.1.2
  have h2 := big_log hc.2.1 hc.2.2
  unfold CMulW
  omega
theorem iop_mulB : OpR X (inplaceOp .Mult) (rI CMulB fun i j => .int (i * j)) := opI fun i j _ _ _ _ _ hc q => by
  refine imul_int q (CMulW.ok ?_)
  have h1 := big_log hc.1.1 hc.1.2
  have h2 := big_log hc.2.1 hc.2.2
  unfold CMulW
  omega
theorem op_divB : OpR X (binaryOp .FloorDiv) (rI CDivB fun i j => .int (i / j)) := opI fun i j _ _ _ _ _ hc q => by
  obtain ⟨h1, h2⟩ := hc
  have e : j.natAbs < 2 ^ 700 := by
    have : (10 : Int) ^ 200 < 2 ^ 700 := by decide
    generalize hn : (2 : Nat) ^ 700 = n at *
    have e : ((2 : Int) ^ 700) = (n : Int) := by rw [← hn, Int.natCast_pow] <;> rfl
    rw [e] at this
    omega
  exact floordiv_int (by omega) (by rw [Int.fdiv_eq_ediv_of_nonneg i (by omega)]; exact q) (.inl (PyProof.noPylong_of_log2 (Nat.lt_trans (PySem.Flt.log2_lt_of (by decide) e) (by decide))))
/-- a power of a great int -/
def CPowW (i j : Int) : Prop := 0 ≤ j ∧ j ≤ 100 ∧ -BIG < i ∧ i < BIG
theorem op_powB : OpR X (binaryOp .Pow) (rI CPowW fun i j => .int (i ^ j.toNat)) := opI fun i j _ _ _ _ _ hc q => by
  obtain ⟨h1, h2, h3, h4⟩ := hc
  refine pow_int h1 ?_ q
  have b : Builtin.Int.intBits i ≤ 100000 := by
    unfold Builtin.Int.intBits
    split
    · omega
    · have := big_log h3 h4
      omega
  have b2 : ((Builtin.Int.intBits i : Nat) : Int) ≤ 100000 := by omega
  calc ((Builtin.Int.intBits i : Nat) : Int) * j ≤ 100000 * j := Int.mul_le_mul_of_nonneg_right b2 h1
    _ ≤ 100000 * 100 := Int.mul_le_mul_of_nonneg_left h2 (by decide)
    _ ≤ 2 ^ 27 := by decide
/-- a power of a small int -/
def CPowC (i j : Int) : Prop := 0 ≤ j ∧ j ≤ 1000 ∧ -(10 ^ 18) < i ∧ i < 10 ^ 18
theorem op_powC : OpR X (binaryOp .Pow) (rI CPowC fun i j => .int (i ^ j.toNat)) := opI fun i j _ _ _ _ _ hc q => pow_int_small hc.1 (by have := hc.2.1; omega) (by have h1 := hc.2.2.1; have h2 := hc.2.2.2; omega) q
/-- a number whose text is no matter -/
def MED : Int := 2 ^ 1900
theorem med_200 : (10 : Int) ^ 200 ≤ MED := by
  unfold MED
  exact Int.le_trans (by decide : (10 : Int) ^ 200 ≤ 2 ^ 700) (Int.ofNat_le.mpr (Nat.pow_le_pow_right (by decide) (by decide : 700 ≤ 1900)))
theorem med_log {i : Int} (h : -MED < i) (h2 : i < MED) : i.natAbs.log2 < 1900 := by
  have e : i.natAbs < 2 ^ 1900 := by
    unfold MED at h h2
    generalize hn : (2 : Nat) ^ 1900 = n at *
    have e : ((2 : Int) ^ 1900) = (n : Int) := by rw [← hn, Int.natCast_pow] <;> rfl
    rw [e] at h h2
    omega
  exact PySem.Flt.log2_lt_of (by decide) e
def rReprI : List V → Hp → VK → Prop := fun xs H Q => ∃ i, xs = [.int i] ∧ (-MED < i ∧ i < MED) ∧ Q (.str (toString i)) H
theorem call_repr_I : CallR X (.builtin "repr") rReprI := by
  intro pins s σ H xs us Q I r h
  obtain ⟨i, rfl, hb, q⟩ := h
  cases r with
  | cons r0 r1 =>
  cases r1
  obtain ⟨t, rfl⟩ := r0
  exact P.repr_of_int (Nat.lt_trans (med_log hb.1 hb.2) (by decide)) ⟨.str _, H, I.tok _, ⟨_, rfl⟩, q⟩
theorem call_str_I : CallR X (.type "str") rReprI := fun pins s σ H xs us Q I r h => call_str_int pins s σ H xs us Q I r (by
  obtain ⟨i, e, hb, q⟩ := h
  exact ⟨i, e, Nat.lt_trans (med_log hb.1 hb.2) (by decide), q⟩)
theorem call_intI : CallR X (.type "int") (fun xs H Q => ∃ i, xs = [.int i] ∧ Q (.int i) H) := fun pins s σ H xs us Q I r h => call_int1 pins s σ H xs us Q I r (.inl h)
/-- a tracked list's, a tracked tuple's item -/
def rIxLT : R2 := fun x y H Q => ∃ p xs i v, x = .ref p ∧ y = .int i ∧ H p = some (.lst xs) ∧ atI xs i = some v ∧ Q v H
def rIxTT : R2 := fun x y H Q => ∃ p xs i v, x = .ref p ∧ y = .int i ∧ H p = some (.tup xs) ∧ atI xs i = some v ∧ Q v H
theorem ix_listT : IxR X rIxLT := fun e1 e2 pins s σ H x y u v Q I rx ry h hs => ix_list e1 e2 pins s σ H x y u v Q I rx ry (by
  obtain ⟨p, xs, i, v, h1, h2, h3, h4, q⟩ := h
  exact ⟨p, xs, i, v, h1, h2, SqL.of h3, h4, q⟩) hs
theorem ix_tupT : IxR X rIxTT := fun e1 e2 pins s σ H x y u v Q I rx ry h hs => ix_tup e1 e2 pins s σ H x y u v Q I rx ry (by
  obtain ⟨p, xs, i, v, h1, h2, h3, h4, q⟩ := h
  exact ⟨p, xs, i, v, h1, h2, SqT.of h3, h4, q⟩) hs
/-- repr of data, no repr under way -/
def rReprD (K : PySem.W.Frag) : List V → Hp → VK → Prop := fun xs H Q =>
  ∃ v d, xs = [v] ∧ Dp K H v d ∧ fine 20 d = true ∧ sz d ≤ 16000000 ∧ Q (.str d.shown) H
/-- a < b < c < d -/
def tChain3 (r r' r'' : R2) (ta tb tc td : TE) : TE := fun σ H Q => ta σ H fun x H1 => tb σ H1 fun y H2 => r x y H2 fun z H3 => ∃ k, z = .bl k ∧
  (if k = true then tc σ H3 fun u H4 => r' y u H4 fun z' H5 => ∃ k', z' = .bl k' ∧ (if k' = true then td σ H5 fun t H6 => r'' u t H6 Q else Q (.bl false) H5) else Q (.bl false) H3)
section
variable {o1 o2 o3 : CmpOp} {q1 q2 q3 : R2} {a b c d : Expr} {ta tb tc td : TE} {pos : Pos}
theorem pe_chain3 (h1 : OpR X (compareOp o1) q1) (h2 : OpR X (compareOp o2) q2) (h3 : OpR X (compareOp o3) q3)
    (ha : PE X a ta) (hb : PE X b tb) (hc : PE X c tc) (hd : PE X d td)
    (hm : lastMarks [o1, o2, o3] [b, c, d] = false := by with_unfolding_all rfl) :
    PE X (.Compare a [o1, o2, o3] [b, c, d] pos) (tChain3 q1 q2 q3 ta tb tc td) := by
  refine ⟨fun pins s σ H Q I h => Compare_chain ?_ hm⟩
  refine thn (ha.run pins s σ H _ I h) ?_
  rintro v s1 ⟨x, H1, I1, rx, g1⟩
  refine chain_link (thn (hb.run pins s1 σ H1 _ I1 g1) ?_)
  rintro u s2 ⟨y, H2, I2, ry, g2⟩
  refine thn (h1 pins s2 σ H2 x y v u _ I2 rx ry g2) ?_
  rintro w s3 ⟨z, H3, I3, rz, k, ez, g3⟩
  subst ez
  cases rz
  refine wpAny_truthy_bool ?_
  cases k with
  | false => exact ite_ff ⟨.bl false, H3, I3, rfl, g3⟩
  | true =>
    refine ite_tt (chain_link (thn (hc.run pins s3 σ H3 _ I3 g3) ?_))
    rintro u' s4 ⟨y', H4, I4, ry', g4⟩
    refine thn (h2 pins s4 σ H4 y y' u u' _ I4 ry ry' g4) ?_
    rintro w' s5 ⟨z', H5, I5, rz', k', ez', g5⟩
    subst ez'
    cases rz'
    refine wpAny_truthy_bool ?_
    cases k' with
    | false => exact ite_ff ⟨.bl false, H5, I5, rfl, g5⟩
    | true =>
      refine ite_tt (chain_last (thn (hd.run pins s5 σ H5 _ I5 g5) ?_))
      rintro u2 s6 ⟨y2, H6, I6, ry2, g6⟩
      exact h3 pins s6 σ H6 y' y2 u' u2 Q I6 ry' ry2 g6
theorem pt_chain3 (h1 : OpR X (compareOp o1) q1) (h2 : OpR X (compareOp o2) q2) (h3 : OpR X (compareOp o3) q3)
    (ha : PE X a ta) (hb : PE X b tb) (hc : PE X c tc) (hd : PE X d td)
    (hm : lastMarks [o1, o2, o3] [b, c, d] = false := by with_unfolding_all rfl) :
    PT X (.Compare a [o1, o2, o3] [b, c, d] pos) (tTest (tChain3 q1 q2 q3 ta tb tc td)) := by
  refine ⟨fun pins s σ H Q I h => isTrue_chain ?_ hm⟩
  refine thn (ha.run pins s σ H _ I h) ?_
  rintro v s1 ⟨x, H1, I1, rx, g1⟩
  refine test_link (thn (hb.run pins s1 σ H1 _ I1 g1) ?_)
  rintro u s2 ⟨y, H2, I2, ry, g2⟩
  refine thn (h1 pins s2 σ H2 x y v u _ I2 rx ry g2) ?_
  rintro w s3 ⟨z, H3, I3, rz, k, ez, g3⟩
  subst ez
  cases rz
  refine wpAny_truthy_bool ?_
  cases k with
  | false =>
    obtain ⟨b, eb, g⟩ := g3
    cases eb
    exact ite_ff ⟨H3, I3, g⟩
  | true =>
    refine ite_tt (test_link (thn (hc.run pins s3 σ H3 _ I3 g3) ?_))
    rintro u' s4 ⟨y', H4, I4, ry', g4⟩
    refine thn (h2 pins s4 σ H4 y y' u u' _ I4 ry ry' g4) ?_
    rintro w' s5 ⟨z', H5, I5, rz', k', ez', g5⟩
    subst ez'
    cases rz'
    refine wpAny_truthy_bool ?_
    cases k' with
    | false =>
      obtain ⟨b, eb, g⟩ := g5
      cases eb
      exact ite_ff ⟨H5, I5, g⟩
    | true =>
      refine ite_tt (test_last (thn (hd.run pins s5 σ H5 _ I5 g5) ?_))
      rintro u2 s6 ⟨y2, H6, I6, ry2, g6⟩
      refine thn (h3 pins s6 σ H6 y' y2 u' u2 _ I6 ry' ry2 g6) ?_
      rintro w2 s7 ⟨z2, H7, I7, rz2, k2, ez2, g7⟩
      subst ez2
      cases rz2
      exact wpAny_truthy_bool ⟨H7, I7, g7⟩
end
theorem call_intB : CallR X (.type "int") (fun xs H Q => ∃ k, xs = [.bl k] ∧ Q (.int (if k then 1 else 0)) H) := fun pins s σ H xs us Q I r h => call_int1 pins s σ H xs us Q I r (.inr h)
def rMin3 : List V → Hp → VK → Prop := fun xs H Q => ∃ i j k, xs = [.int i, .int j, .int k] ∧ Q (.int (min (min i j) k)) H
def rMax3 : List V → Hp → VK → Prop := fun xs H Q => ∃ i j k, xs = [.int i, .int j, .int k] ∧ Q (.int (max (max i j) k)) H
theorem vals3 {x y z : V} {us : List Value} (r : Vals [x, y, z] us) : ∃ u v w, us = [u, v, w] ∧ RelV x u ∧ RelV y v ∧ RelV z w := by
  cases r with
  | cons a r => cases r with
    | cons b r => cases r with
      | cons c r => cases r; exact ⟨_, _, _, rfl, a, b, c⟩
theorem call_min3 (hc : X.calm = true) : CallR X (.builtin "min") rMin3 := by
  intro pins s σ H xs us Q I r h
  obtain ⟨i, j, k, rfl, q⟩ := h
  obtain ⟨u, v, w, rfl, ⟨t, rfl⟩, ⟨t', rfl⟩, ⟨t2, rfl⟩⟩ := vals3 r
  refine PySem.min_three_ints (I.ok.hd hc) fun h' tk kk => ⟨.int (min (min i j) k), H, I.kept kk, ?_, q⟩
  split
  · split
    · exact ⟨_, by rw [show min (min i j) k = k by omega]⟩
    · exact ⟨_, by rw [show min (min i j) k = j by omega]⟩
  · split
    · exact ⟨_, by rw [show min (min i j) k = k by omega]⟩
    · exact ⟨_, by rw [show min (min i j) k = i by omega]⟩
theorem call_max3 (hc : X.calm = true) : CallR X (.builtin "max") rMax3 := by
  intro pins s σ H xs us Q I r h
  obtain ⟨i, j, k, rfl, q⟩ := h
  obtain ⟨u, v, w, rfl, ⟨t, rfl⟩, ⟨t', rfl⟩, ⟨t2, rfl⟩⟩ := vals3 r
  refine PySem.max_three_ints (I.ok.hd hc) fun h' tk kk => ⟨.int (max (max i j) k), H, I.kept kk, ?_, q⟩
  split
  · split
    · exact ⟨_, by rw [show max (max i j) k = k by omega]⟩
    · exact ⟨_, by rw [show max (max i j) k = j by omega]⟩
  · split
    · exact ⟨_, by rw [show max (max i j) k = k by omega]⟩
    · exact ⟨_, by rw [show max (max i j) k = i by omega]⟩
def rLenQ (K : PySem.W.Frag) : List V → Hp → VK → Prop := fun xs H Q => ∃ p ys, xs = [.ref p] ∧ (SqL K H p ys ∨ SqT K H p ys) ∧ Q (.int ys.length) H
theorem call_lenQ : CallR X (.builtin "len") (rLenQ X.K) := call_len_seq
/-- == and != of data -/
def rEqF (K : PySem.W.Frag) : R2 := fun x y H Q => ∃ d e, Dp K H x d ∧ Dp K H y e ∧ fine 20 d = true ∧ fine 20 e = true ∧ Q (.bl (PyData.eqv d e)) H
def rNeF (K : PySem.W.Frag) : R2 := fun x y H Q => ∃ d e, Dp K H x d ∧ Dp K H y e ∧ fine 20 d = true ∧ fine 20 e = true ∧ Q (.bl (!PyData.eqv d e)) H
theorem op_eqF {k : Nat} (hr : Room k X.A) : OpR X (compareOp .Eq) (rEqF X.K) := fun pins s σ H x y v u Q I rx ry h => op_eqD hr.units pins s σ H x y v u Q I rx ry (by
  obtain ⟨d, e, h1, h2, h3, h4, q⟩ := h
  exact ⟨d, e, h1, h2, fine_shaped h3, fine_shaped h4, q⟩)
theorem op_neF {k : Nat} (hr : Room k X.A) : OpR X (compareOp .NotEq) (rNeF X.K) := fun pins s σ H x y v u Q I rx ry h => op_neD hr.units pins s σ H x y v u Q I rx ry (by
  obtain ⟨d, e, h1, h2, h3, h4, q⟩ := h
  exact ⟨d, e, h1, h2, fine_shaped h3, fine_shaped h4, q⟩)
theorem call_repr_D {k : Nat} (hr : Room k X.A) (hc : Clean X.A) : CallR X (.builtin "repr") (rReprD X.K) := by
  intro pins s σ H xs us Q I r h
  obtain ⟨v, d, rfl, hd, hf, hs, q⟩ := h
  obtain ⟨h1, h2, h3, hz0⟩ := fine_ok d 20 hf
  have hz : d.shown.length ≤ sizeLine := by rw [sizeLine_eq]; omega
  cases r with
  | cons r0 r1 =>
  cases r1
  rename_i u
  have hu := hr.units
  obtain ⟨as, rd⟩ := Dp.reads I d v u hd r0
  cases hd with
  | non => cases r0; exact P.repr_of_none ⟨.str _, H, I.tok _, ⟨_, rfl⟩, q⟩
  | bl b =>
    cases r0
    refine P.repr_of_bool ⟨.str _, H, I.tok _, ⟨_, rfl⟩, ?_⟩
    cases b <;> exact q
  | int i =>
    obtain ⟨t, rfl⟩ := r0
    exact P.repr_of_int (by simpa only [PyData.showable, decide_eq_true_eq] using h1) ⟨.str _, H, I.tok _, ⟨_, rfl⟩, q⟩
  | str x =>
    obtain ⟨t, rfl⟩ := r0
    exact P.repr_of_str ⟨.str _, H, I.tok _, ⟨_, rfl⟩, q⟩ hz
  | lst _ _ =>
    cases r0
    exact repr_of_reads' rd h1 (fun z => by rw [h2] at z; cases z) hc (by omega) (fun _ _ z => z) (fun h' u tk kk => ⟨.str _, H, I.kept kk, ⟨_, rfl⟩, q⟩) hz
  | tup _ _ =>
    cases r0
    exact repr_of_reads' rd h1 (fun z => by rw [h2] at z; cases z) hc (by omega) (fun _ _ z => z) (fun h' u tk kk => ⟨.str _, H, I.kept kk, ⟨_, rfl⟩, q⟩) hz
end

/-- (a, b, ..) = a tracked tuple of that length -/
def gTupT (n : Nat) (t : TGs) : TG := fun v σ H Q => ∃ a xs, v = .ref a ∧ H a = some (.tup xs) ∧ xs.length = n ∧ t xs σ H Q
theorem pg_tupT {X : Cx} {pos : Pos} {es : List Expr} {k : Nat} {t : TGs} {n : Nat} (hc : X.calm = true) (h : PGs X es t)
    (hn : (assignEach es X.env).length = n := by rfl) (hst : (assignEach es X.env).findIdx? (·.1) = none := by rfl) : PG X (.Tuple es k pos) (gTupT n t) :=
  ⟨fun pins s σ H v u Q I r hw => (pg_tup hc h hn hst).run pins s σ H v u Q I r (by
    obtain ⟨a, xs, e1, hq, hl, z⟩ := hw
    exact ⟨a, xs, e1, SqT.of hq, hl, z⟩)⟩

/-! ### promises by the number of arguments -/
def sp0 (F : Hp → VK → XK → Prop) : Sp := fun vs H Q E => vs = [] ∧ F H Q E
def sp1 (F : V → Hp → VK → XK → Prop) : Sp := fun vs H Q E => ∃ a, vs = [a] ∧ F a H Q E
def sp2 (F : V → V → Hp → VK → XK → Prop) : Sp := fun vs H Q E => ∃ a b, vs = [a, b] ∧ F a b H Q E
def sp3 (F : V → V → V → Hp → VK → XK → Prop) : Sp := fun vs H Q E => ∃ a b c, vs = [a, b, c] ∧ F a b c H Q E
def sp4 (F : V → V → V → V → Hp → VK → XK → Prop) : Sp := fun vs H Q E => ∃ a b c d, vs = [a, b, c, d] ∧ F a b c d H Q E
def sp5 (F : V → V → V → V → V → Hp → VK → XK → Prop) : Sp := fun vs H Q E => ∃ a b c d e, vs = [a, b, c, d, e] ∧ F a b c d e H Q E
theorem ar0 {F vs H Q E} (h : sp0 F vs H Q E) : vs.length = 0 := by obtain ⟨rfl, _⟩ := h; rfl
theorem ar1 {F vs H Q E} (h : sp1 F vs H Q E) : vs.length = 1 := by obtain ⟨_, rfl, _⟩ := h; rfl
theorem ar2 {F vs H Q E} (h : sp2 F vs H Q E) : vs.length = 2 := by obtain ⟨_, _, rfl, _⟩ := h; rfl
theorem ar3 {F vs H Q E} (h : sp3 F vs H Q E) : vs.length = 3 := by obtain ⟨_, _, _, rfl, _⟩ := h; rfl
theorem ar4 {F vs H Q E} (h : sp4 F vs H Q E) : vs.length = 4 := by obtain ⟨_, _, _, _, rfl, _⟩ := h; rfl
theorem ar5 {F vs H Q E} (h : sp5 F vs H Q E) : vs.length = 5 := by obtain ⟨_, _, _, _, _, rfl, _⟩ := h; rfl

/-! ### what is kept but for one object -/
def Mo (r : Addr) (H H' : Hp) : Prop := ∀ b o, b ≠ r → H b = some o → H' b = some o
theorem Mo.refl (r : Addr) (H : Hp) : Mo r H H := fun _ _ _ h => h
theorem Mo.trans {r : Addr} {H H1 H2 : Hp} (a : Mo r H H1) (b : Mo r H1 H2) : Mo r H H2 := fun c o n h => b c o n (a c o n h)
theorem Mo.ex {r : Addr} {H H1 : Hp} (e : Ex H H1) : Mo r H H1 := fun c o _ h => e c o h
theorem Mo.upd {r : Addr} {H : Hp} {o : HO} : Mo r H (upd H r o) := fun c u n h => by rw [upd_ne n]; exact h
theorem Ex.to_mo {r : Addr} {H H1 H2 : Hp} (e : Ex H H1) (m : Mo r H1 H2) : Mo r H H2 := fun c o n h => m c o n (e c o h)
/-- a new object that is written stays new to what stood before -/
theorem Mo.ex_new {r : Addr} {H H1 H2 : Hp} (e : Ex H H1) (n : H r = none) (m : Mo r H1 H2) : Ex H H2 := fun c o h => m c o (ne_of_none h n) (e c o h)
theorem sq_l {K : PySem.W.Frag} {H : Hp} {a : Addr} {xs : List V} (h : H a = some (.lst xs)) : SqL K H a xs := .inl (.inl h)
theorem sq_t {K : PySem.W.Frag} {H : Hp} {a : Addr} {xs : List V} (h : H a = some (.tup xs)) : SqT K H a xs := .inl (.inl h)

/-! ### new data: what is at addresses of S alone -/
mutual
inductive Rp (H : Hp) (S : Addr → Prop) : V → PyData → Prop where
  | non : Rp H S .non .none
  | bl (b : Bool) : Rp H S (.bl b) (.bool b)
  | int (i : Int) : Rp H S (.int i) (.int i)
  | str (x : Str) : Rp H S (.str x) (.str x)
  | lst {a : Addr} {xs : List V} {ds : List PyData} : S a → H a = some (.lst xs) → RpA H S xs ds → Rp H S (.ref a) (.list ds)
  | tup {a : Addr} {xs : List V} {ds : List PyData} : S a → H a = some (.tup xs) → RpA H S xs ds → Rp H S (.ref a) (.tuple ds)
inductive RpA (H : Hp) (S : Addr → Prop) : List V → List PyData → Prop where
  | nil : RpA H S [] []
  | cons {v : V} {vs : List V} {d : PyData} {ds : List PyData} : Rp H S v d → RpA H S vs ds → RpA H S (v :: vs) (d :: ds)
end
section
variable {H H' : Hp} {S S' : Addr → Prop} {K : PySem.W.Frag}
mutual
theorem Rp.keep (k : ∀ b o, S b → H b = some o → H' b = some o) (s : ∀ b, S b → S' b) : ∀ {d : PyData} {v : V}, Rp H S v d → Rp H' S' v d
  | .none, _, .non => .non
  | .bool _, _, .bl b => .bl b
  | .int _, _, .int i => .int i
  | .str _, _, .str x => .str x
  | .list _, _, .lst m h r => .lst (s _ m) (k _ _ m h) (RpA.keep k s r)
  | .tuple _, _, .tup m h r => .tup (s _ m) (k _ _ m h) (RpA.keep k s r)
theorem RpA.keep (k : ∀ b o, S b → H b = some o → H' b = some o) (s : ∀ b, S b → S' b) : ∀ {ds : List PyData} {vs : List V}, RpA H S vs ds → RpA H' S' vs ds
  | [], _, .nil => .nil
  | _ :: _, _, .cons h r => .cons (Rp.keep k s h) (RpA.keep k s r)
end
mutual
theorem Rp.dp : ∀ {d : PyData} {v : V}, Rp H S v d → Dp K H v d
  | .none, _, .non => .non
  | .bool _, _, .bl b => .bl b
  | .int _, _, .int i => .int i
  | .str _, _, .str x => .str x
  | .list _, _, .lst _ h r => .lst (sq_l h) (RpA.dp r)
  | .tuple _, _, .tup _ h r => .tup (sq_t h) (RpA.dp r)
theorem RpA.dp : ∀ {ds : List PyData} {vs : List V}, RpA H S vs ds → DpAll K H vs ds
  | [], _, .nil => .nil
  | _ :: _, _, .cons h r => .cons (Rp.dp h) (RpA.dp r)
end
mutual
theorem Rp.here : ∀ {d : PyData} {v : V}, Rp H S v d → Rp H (fun b => S b ∧ ∃ o, H b = some o) v d
  | .none, _, .non => .non
  | .bool _, _, .bl b => .bl b
  | .int _, _, .int i => .int i
  | .str _, _, .str x => .str x
  | .list _, _, .lst m h r => .lst ⟨m, _, h⟩ h (RpA.here r)
  | .tuple _, _, .tup m h r => .tup ⟨m, _, h⟩ h (RpA.here r)
theorem RpA.here : ∀ {ds : List PyData} {vs : List V}, RpA H S vs ds → RpA H (fun b => S b ∧ ∃ o, H b = some o) vs ds
  | [], _, .nil => .nil
  | _ :: _, _, .cons h r => .cons (Rp.here h) (RpA.here r)
end
theorem Rp.off {p : Addr} (hp : H p = none) {v : V} {d : PyData} (h : Rp H S v d) : Rp H (fun b => S b ∧ b ≠ p) v d :=
  h.here.keep (fun _ _ _ q => q) fun b ⟨q, o, e⟩ => ⟨q, ne_of_none e hp⟩
theorem RpA.off {p : Addr} (hp : H p = none) {v : List V} {d : List PyData} (h : RpA H S v d) : RpA H (fun b => S b ∧ b ≠ p) v d :=
  h.here.keep (fun _ _ _ q => q) fun b ⟨q, o, e⟩ => ⟨q, ne_of_none e hp⟩
theorem Rp.ex (e : Ex H H') {v : V} {d : PyData} (h : Rp H S v d) : Rp H' S v d := h.keep (fun b o _ q => e b o q) fun _ q => q
theorem RpA.ex (e : Ex H H') {v : List V} {d : List PyData} (h : RpA H S v d) : RpA H' S v d := h.keep (fun b o _ q => e b o q) fun _ q => q
theorem Rp.sub {v : V} {d : PyData} (h : Rp H S v d) (s : ∀ b, S b → S' b) : Rp H S' v d := h.keep (fun _ _ _ q => q) s
theorem RpA.sub {v : List V} {d : List PyData} (h : RpA H S v d) (s : ∀ b, S b → S' b) : RpA H S' v d := h.keep (fun _ _ _ q => q) s
theorem RpA.app : ∀ {xs ys : List V} {ds es : List PyData}, RpA H S xs ds → RpA H S ys es → RpA H S (xs ++ ys) (ds ++ es)
  | _, _, _, _, .nil, r => r
  | _, _, _, _, .cons h t, r => .cons h (RpA.app t r)
theorem RpA.len : ∀ {vs : List V} {ds : List PyData}, RpA H S vs ds → vs.length = ds.length
  | _, _, .nil => rfl
  | _, _, .cons _ r => congrArg Nat.succ (RpA.len r)
theorem RpA.at : ∀ {vs : List V} {ds : List PyData} {i : Nat} {d : PyData}, RpA H S vs ds → ds[i]? = some d → ∃ v, vs[i]? = some v ∧ Rp H S v d
  | _, _, _, _, .nil, e => by simp at e
  | _, _, 0, _, .cons h _, e => by simp at e; subst e; exact ⟨_, rfl, h⟩
  | _, _, i + 1, _, .cons _ r, e => by simpa using RpA.at (i := i) r (by simpa using e)
theorem RpA.at' : ∀ {vs : List V} {ds : List PyData} {i : Nat} {v : V}, RpA H S vs ds → vs[i]? = some v → ∃ d, ds[i]? = some d ∧ Rp H S v d
  | _, _, _, _, .nil, e => by simp at e
  | _, _, 0, _, .cons h _, e => by simp at e; subst e; exact ⟨_, rfl, h⟩
  | _, _, i + 1, _, .cons _ r, e => by simpa using RpA.at' (i := i) r (by simpa using e)
theorem RpA.ints : ∀ {ns : List Int}, RpA H S (ns.map V.int) (ns.map PyData.int)
  | [] => .nil
  | n :: _ => .cons (.int n) RpA.ints
theorem RpA.ints_inv : ∀ {ns : List Int} {vs : List V}, RpA H S vs (ns.map PyData.int) → vs = ns.map V.int
  | [], _, .nil => rfl
  | _ :: _, _, .cons (.int _) r => congrArg _ (RpA.ints_inv r)
/-- a new datum: all of it new to H -/
abbrev New (H : Hp) : Addr → Prop := fun b => H b = none
theorem new_ex (e : Ex H H') : ∀ b, New H' b → New H b := fun _ n => Evl.fresh_back e n
end

/-! ### comprehensions -/
theorem dpa_ex {K : PySem.W.Frag} {H H' : Hp} (e : Ex H H') : ∀ {vs : List V} {ds : List PyData}, DpAll K H vs ds → DpAll K H' vs ds
  | _, _, .nil => .nil
  | _, _, .cons h r => .cons (dp_ex e _ _ h) (dpa_ex e r)
theorem dpa_len {K : PySem.W.Frag} {H : Hp} : ∀ {vs : List V} {ds : List PyData}, DpAll K H vs ds → vs.length = ds.length
  | _, _, .nil => rfl
  | _, _, .cons _ r => congrArg Nat.succ (dpa_len r)
theorem dpa_at {K : PySem.W.Frag} {H : Hp} : ∀ {vs : List V} {ds : List PyData} {i : Nat} {d : PyData}, DpAll K H vs ds → ds[i]? = some d → ∃ v, vs[i]? = some v ∧ Dp K H v d
  | _, _, _, _, .nil, e => by simp at e
  | _, _, 0, _, .cons h _, e => by simp at e; subst e; exact ⟨_, rfl, h⟩
  | _, _, i + 1, _, .cons _ r, e => by simpa using dpa_at (i := i) r (by simpa using e)
theorem dpa_ints {K : PySem.W.Frag} {H : Hp} : ∀ {ns : List Int}, DpAll K H (ns.map V.int) (ns.map PyData.int)
  | [] => .nil
  | n :: _ => .cons (.int n) dpa_ints
section
variable {K : PySem.W.Frag} {σ : L2.St} {H : Hp} {ta : TA} {te tl : TE} {tt : TT} {j : Nat} {vs : List Nat} {Q : VK} {n : Nat} {a : Addr} {xs : List V}
/-- one turn of a comprehension without a test: what is at D grows by what represents d i -/
def LcAt (H : Hp) (D : Addr) (d : Nat → PyData) (i : Nat) (H' : Hp) : Prop :=
  H D = none ∧ Ex H H' ∧ ∃ ys, H' D = some (.lst ys) ∧ RpA H' (fun b => New H b ∧ b ≠ D) ys ((List.range i).map d)
theorem LcAt.start {d : Nat → PyData} {D : Addr} (h : H D = none) : LcAt H D d 0 (upd H D (.lst [])) := ⟨h, exn h, [], upd_same, .nil⟩
theorem lc_step {d : Nat → PyData} {D : Addr} {i : Nat} {H' : Hp} {σ2 : L2.St} (p : LcAt H D d i H') (hi : i < 1000000)
    (he : ∀ H1, Ex H H1 → ∀ R : VK, (∀ v H2, Ex H1 H2 → Rp H2 (New H1) v (d i) → R v H2) → te σ2 H1 R) :
    tYes σ2 H' fun b H3 => if b = true then te σ2 H3 fun y H4 => ∃ acc, H4 D = some (.lst acc) ∧ acc.length < sizeLine ∧ LcAt H D d (i + 1) (upd H4 D (.lst (acc ++ [y]))) else LcAt H D d (i + 1) H3 := by
  obtain ⟨p1, p2, ys, p3, p4⟩ := p
  unfold tYes
  show (if true = true then _ else _)
  rw [if_pos rfl]
  refine he H' p2 _ fun v H2 e2 hv => ?_
  have len : ys.length = i := by rw [p4.len, List.length_map, List.length_range]
  have keep : ∀ (b : Addr) (o : HO), New H b ∧ b ≠ D → H2 b = some o → (upd H2 D (.lst (ys ++ [v]))) b = some o := fun b o m q => by rw [upd_ne m.2]; exact q
  refine ⟨ys, e2 D _ p3, ?_, p1, Mo.ex_new (p2.trans e2) p1 Mo.upd, ys ++ [v], upd_same, ?_⟩
  · rw [len, sizeLine_eq]; omega
  · rw [List.range_succ, List.map_append]
    refine RpA.app ((p4.ex e2).keep keep fun _ q => q) (.cons ?_ .nil)
    exact (hv.sub fun b q => ⟨Evl.fresh_back p2 q, ne_of_none' q p3⟩).keep keep fun _ q => q
where ne_of_none' {H : Hp} {a b : Addr} {o : HO} (q : H b = none) (h : H a = some o) : b ≠ a := fun e => by rw [e, h] at q; cases q
/-- [.. for x in range(n)] -/
theorem lc_rng (d : Nat → PyData) (ha : ∀ R, R [.int (n : Int)] H → ta σ H R) (hn : n ≤ 1000000) (hw : ∀ x, wipe ((wipe σ vs).set j (some x)) vs = wipe σ vs)
    (he : ∀ (i : Nat) H1, i < n → Ex H H1 → ∀ R : VK, (∀ v H2, Ex H1 H2 → Rp H2 (New H1) v (d i) → R v H2) → te ((wipe σ vs).set j (some (.int (i : Int)))) H1 R)
    (k : ∀ v H', Ex H H' → Rp H' (New H) v (.list ((List.range n).map d)) → Q v H') : tLc (iRng1 ta) (gName j) tYes te vs σ H Q := by
  refine ha _ ⟨(n : Int), rfl, by omega, by omega, fun D hD => ?_⟩
  refine lc_range (lo := 0) (n := n) (LcAt H D d) (.start hD) (fun i H' hi p => ?_) (fun H' p => ?_)
  · have e0 : (0 : Int) + (i : Int) = (i : Int) := Int.zero_add _
    show wipe ((wipe σ vs).set j (some (.int ((0 : Int) + (i : Int))))) vs = wipe σ vs ∧ _
    refine ⟨hw _, ?_⟩
    rw [e0]
    exact lc_step p (by omega) (he i · hi)
  · obtain ⟨p1, p2, ys, p3, p4⟩ := p
    exact k _ _ p2 (.lst p1 p3 (p4.sub fun b q => q.1))
theorem lc_rng2 {lo : Int} (d : Nat → PyData) (ha : ∀ R, R [.int lo, .int (lo + (n : Int))] H → ta σ H R) (hn : n ≤ 1000000) (hlo : -1000000 ≤ lo ∧ lo ≤ 1000000) (hw : ∀ x, wipe ((wipe σ vs).set j (some x)) vs = wipe σ vs)
    (he : ∀ (i : Nat) H1, i < n → Ex H H1 → ∀ R : VK, (∀ v H2, Ex H1 H2 → Rp H2 (New H1) v (d i) → R v H2) → te ((wipe σ vs).set j (some (.int (lo + (i : Int))))) H1 R)
    (k : ∀ v H', Ex H H' → Rp H' (New H) v (.list ((List.range n).map d)) → Q v H') : tLc (iRng2 ta) (gName j) tYes te vs σ H Q := by
  refine ha _ ⟨lo, lo + (n : Int), rfl, ⟨by omega, by omega, by omega, by omega⟩, fun D hD => ?_⟩
  have en : (lo + (n : Int) - lo).toNat = n := by omega
  rw [en]
  refine lc_range (lo := lo) (n := n) (LcAt H D d) (.start hD) (fun i H' hi p => ⟨hw _, lc_step p (by omega) (he i · hi)⟩) (fun H' p => ?_)
  obtain ⟨p1, p2, ys, p3, p4⟩ := p
  exact k _ _ p2 (.lst p1 p3 (p4.sub fun b q => q.1))
/-- [.. for x in xs], xs a list that stands -/
theorem lc_lst (d : Nat → PyData) (ha : ∀ R, R (.ref a) H → tl σ H R) (hx : SqL K H a xs) (hn : xs.length ≤ 1000000) (hw : ∀ x, wipe ((wipe σ vs).set j (some x)) vs = wipe σ vs)
    (he : ∀ (i : Nat) x H1, xs[i]? = some x → Ex H H1 → ∀ R : VK, (∀ v H2, Ex H1 H2 → Rp H2 (New H1) v (d i) → R v H2) → te ((wipe σ vs).set j (some x)) H1 R)
    (k : ∀ v H', Ex H H' → Rp H' (New H) v (.list ((List.range xs.length).map d)) → Q v H') : tLc (iList K tl) (gName j) tYes te vs σ H Q := by
  refine ha _ ⟨a, rfl, ⟨xs, hx⟩, fun D hD => ?_⟩
  refine lc_list (xs := xs) (LcAt H D d) (.start hD) (fun i H' _ p => Evl.ex_l p.2.1 hx) (fun i x H' hi p => ⟨hw _, lc_step p ?_ (he i x · hi)⟩) (fun H' p => ?_)
  · have := (List.getElem?_eq_some_iff.mp hi).1; omega
  · obtain ⟨p1, p2, ys, p3, p4⟩ := p
    exact k _ _ p2 (.lst p1 p3 (p4.sub fun b q => q.1))
end

section
variable {K : PySem.W.Frag} {σ : L2.St} {H : Hp} {ta : TA} {te tl : TE} {tt : TT} {j : Nat} {vs : List Nat} {Q : VK} {n : Nat} {a : Addr} {xs : List V}
/-- with a test -/
def LcAtF (H : Hp) (D : Addr) (f : Nat → Bool) (d : Nat → PyData) (i : Nat) (H' : Hp) : Prop :=
  H D = none ∧ Ex H H' ∧ ∃ ys, H' D = some (.lst ys) ∧ RpA H' (fun b => New H b ∧ b ≠ D) ys (((List.range i).filter f).map d)
theorem LcAtF.start {f : Nat → Bool} {d : Nat → PyData} {D : Addr} (h : H D = none) : LcAtF H D f d 0 (upd H D (.lst [])) := ⟨h, exn h, [], upd_same, .nil⟩
theorem lc_stepF {f : Nat → Bool} {d : Nat → PyData} {D : Addr} {i : Nat} {H' : Hp} {σ2 : L2.St} (p : LcAtF H D f d i H') (hi : i < 1000000)
    (ht : ∀ H1, Ex H H1 → ∀ R : Bool → Hp → Prop, (∀ H2, Ex H1 H2 → R (f i) H2) → tt σ2 H1 R)
    (he : f i = true → ∀ H1, Ex H H1 → ∀ R : VK, (∀ v H2, Ex H1 H2 → Rp H2 (New H1) v (d i) → R v H2) → te σ2 H1 R) :
    tt σ2 H' fun b H3 => if b = true then te σ2 H3 fun y H4 => ∃ acc, H4 D = some (.lst acc) ∧ acc.length < sizeLine ∧ LcAtF H D f d (i + 1) (upd H4 D (.lst (acc ++ [y]))) else LcAtF H D f d (i + 1) H3 := by
  obtain ⟨p1, p2, ys, p3, p4⟩ := p
  refine ht H' p2 _ fun H3 e3 => ?_
  cases hf : f i with
  | false =>
    refine iteF ⟨p1, p2.trans e3, ys, e3 D _ p3, ?_⟩
    rw [List.range_succ, List.filter_append, List.filter_cons_of_neg (by simp [hf]), List.filter_nil, List.append_nil]
    exact p4.ex e3
  | true =>
    show (if true = true then _ else _)
    rw [if_pos rfl]
    refine he hf H3 (p2.trans e3) _ fun v H2 e2 hv => ?_
    have len : ys.length ≤ i := by
      rw [p4.len, List.length_map]
      have := List.length_filter_le f (List.range i)
      rw [List.length_range] at this
      exact this
    have p5 := e3 D _ p3
    have keep : ∀ (b : Addr) (o : HO), New H b ∧ b ≠ D → H2 b = some o → (upd H2 D (.lst (ys ++ [v]))) b = some o := fun b o m q => by rw [upd_ne m.2]; exact q
    refine ⟨ys, e2 D _ p5, ?_, p1, Mo.ex_new ((p2.trans e3).trans e2) p1 Mo.upd, ys ++ [v], upd_same, ?_⟩
    · rw [sizeLine_eq]; omega
    · rw [List.range_succ, List.filter_append, List.filter_cons_of_pos hf, List.filter_nil, List.map_append]
      refine RpA.app (((p4.ex e3).ex e2).keep keep fun _ q => q) (.cons ?_ .nil)
      exact (hv.sub fun b q => ⟨Evl.fresh_back (p2.trans e3) q, lc_step.ne_of_none' q p5⟩).keep keep fun _ q => q
theorem lc_rng2F {lo : Int} (f : Nat → Bool) (d : Nat → PyData) (ha : ∀ R, R [.int lo, .int (lo + (n : Int))] H → ta σ H R) (hn : n ≤ 1000000) (hlo : -1000000 ≤ lo ∧ lo ≤ 1000000) (hw : ∀ x, wipe ((wipe σ vs).set j (some x)) vs = wipe σ vs)
    (ht : ∀ (i : Nat) H1, i < n → Ex H H1 → ∀ R : Bool → Hp → Prop, (∀ H2, Ex H1 H2 → R (f i) H2) → tt ((wipe σ vs).set j (some (.int (lo + (i : Int))))) H1 R)
    (he : ∀ (i : Nat) H1, i < n → f i = true → Ex H H1 → ∀ R : VK, (∀ v H2, Ex H1 H2 → Rp H2 (New H1) v (d i) → R v H2) → te ((wipe σ vs).set j (some (.int (lo + (i : Int))))) H1 R)
    (k : ∀ v H', Ex H H' → Rp H' (New H) v (.list (((List.range n).filter f).map d)) → Q v H') : tLc (iRng2 ta) (gName j) tt te vs σ H Q := by
  refine ha _ ⟨lo, lo + (n : Int), rfl, ⟨by omega, by omega, by omega, by omega⟩, fun D hD => ?_⟩
  have en : (lo + (n : Int) - lo).toNat = n := by omega
  rw [en]
  refine lc_range (lo := lo) (n := n) (LcAtF H D f d) (.start hD) (fun i H' hi p => ⟨hw _, lc_stepF p (by omega) (fun H1 => ht i H1 hi) (fun hf H1 => he i H1 hi hf)⟩) (fun H' p => ?_)
  obtain ⟨p1, p2, ys, p3, p4⟩ := p
  exact k _ _ p2 (.lst p1 p3 (p4.sub fun b q => q.1))
theorem lc_lstF (f : Nat → Bool) (d : Nat → PyData) (ha : ∀ R, R (.ref a) H → tl σ H R) (hx : SqL K H a xs) (hn : xs.length ≤ 1000000) (hw : ∀ x, wipe ((wipe σ vs).set j (some x)) vs = wipe σ vs)
    (ht : ∀ (i : Nat) x H1, xs[i]? = some x → Ex H H1 → ∀ R : Bool → Hp → Prop, (∀ H2, Ex H1 H2 → R (f i) H2) → tt ((wipe σ vs).set j (some x)) H1 R)
    (he : ∀ (i : Nat) x H1, xs[i]? = some x → f i = true → Ex H H1 → ∀ R : VK, (∀ v H2, Ex H1 H2 → Rp H2 (New H1) v (d i) → R v H2) → te ((wipe σ vs).set j (some x)) H1 R)
    (k : ∀ v H', Ex H H' → Rp H' (New H) v (.list (((List.range xs.length).filter f).map d)) → Q v H') : tLc (iList K tl) (gName j) tt te vs σ H Q := by
  refine ha _ ⟨a, rfl, ⟨xs, hx⟩, fun D hD => ?_⟩
  refine lc_list (xs := xs) (LcAtF H D f d) (.start hD) (fun i H' _ p => Evl.ex_l p.2.1 hx) (fun i x H' hi p => ⟨hw _, lc_stepF p ?_ (fun H1 => ht i x H1 hi) (fun hf H1 => he i x H1 hi hf)⟩) (fun H' p => ?_)
  · have := (List.getElem?_eq_some_iff.mp hi).1; omega
  · obtain ⟨p1, p2, ys, p3, p4⟩ := p
    exact k _ _ p2 (.lst p1 p3 (p4.sub fun b q => q.1))
end

theorem cut_to (xs : List V) (m : Nat) : cutV xs none (some (m : Int)) = xs.take m := by
  unfold cutV
  have e : HT.sIx xs.length xs.length (some (m : Int)) = min m xs.length := HT.sIx_nat xs.length xs.length m
  rw [e, HT.sIx_none]
  show List.take (min m xs.length - 0) xs = _
  rw [Nat.sub_zero, ← List.take_take, List.take_length]
theorem cut_1 (xs : List V) : cutV xs (some 1) none = xs.drop 1 := by
  unfold cutV
  have e : HT.sIx xs.length 0 (some 1) = min 1 xs.length := HT.sIx_nat xs.length 0 1
  rw [e, HT.sIx_none]
  cases xs with
  | nil => rfl
  | cons x r =>
    have e2 : min 1 (x :: r).length = 1 := by rw [List.length_cons]; omega
    rw [e2]
    show List.take ((x :: r).length - 1) r = r
    rw [List.length_cons, Nat.add_sub_cancel, List.take_length]
/-! ### comprehensions over a range, with what stands between the turns -/
section
variable {K : PySem.W.Frag} {σ : L2.St} {H : Hp} {ta : TA} {te tl : TE} {tt : TT} {j : Nat} {vs : List Nat} {Q : VK} {n : Nat} {a : Addr} {xs : List V}
/-- ints, each with a word P; I i is kept by what does not touch old objects -/
theorem lc_rngI (I : Nat → Hp → Prop) (P : Nat → Int → Prop) (ha : ∀ R, R [.int (n : Int)] H → ta σ H R) (hn : n ≤ 1000000) (hw : ∀ x, wipe ((wipe σ vs).set j (some x)) vs = wipe σ vs)
    (h0 : I 0 H) (hI : ∀ i p H1 H2, I i H1 → H p = none → Mo p H1 H2 → I i H2)
    (he : ∀ (i : Nat) p H1, i < n → I i H1 → H p = none → (∃ o, H1 p = some o) → ∀ R : VK, (∀ x H2, I (i + 1) H2 → P i x → H2 p = H1 p → R (.int x) H2) → te ((wipe σ vs).set j (some (.int (i : Int)))) H1 R)
    (k : ∀ (ns : List Int) p H', ns.length = n → (∀ i x, ns[i]? = some x → P i x) → I n H' → H p = none → H' p = some (.lst (ns.map V.int)) → Q (.ref p) H') : tLc (iRng1 ta) (gName j) tYes te vs σ H Q := by
  refine ha _ ⟨(n : Int), rfl, by omega, by omega, fun D hD => ?_⟩
  refine lc_range (lo := 0) (n := n) (fun i H' => I i H' ∧ ∃ ns : List Int, ns.length = i ∧ (∀ i x, ns[i]? = some x → P i x) ∧ H' D = some (.lst (ns.map V.int)))
    ⟨hI 0 D H _ h0 hD Mo.upd, [], rfl, by simp, upd_same⟩ (fun i H' hi p => ?_) (fun H' p => ?_)
  · obtain ⟨i0, ns, len, hp, hd⟩ := p
    have e0 : (0 : Int) + (i : Int) = (i : Int) := Int.zero_add _
    show wipe ((wipe σ vs).set j (some (.int ((0 : Int) + (i : Int))))) vs = wipe σ vs ∧ _
    refine ⟨hw _, ?_⟩
    rw [e0]
    unfold tYes
    show (if true = true then _ else _)
    rw [if_pos rfl]
    refine he i D H' hi i0 hD ⟨_, hd⟩ _ fun x H2 i2 px ed => ?_
    refine ⟨ns.map V.int, by rw [ed, hd], ?_, hI _ D H2 _ i2 hD Mo.upd, ns ++ [x], by simp [len], ?_, ?_⟩
    · rw [List.length_map, len, sizeLine_eq]; omega
    · intro m y hm
      rw [List.getElem?_append] at hm
      split at hm
      · exact hp m y hm
      · rename_i hl
        have e : m = i := by
          rcases Nat.lt_or_ge (m - ns.length) 1 with h | h
          · omega
          · rw [List.getElem?_eq_none (by simpa using h)] at hm; cases hm
        subst e
        rw [len, Nat.sub_self] at hm
        simp at hm
        subst hm
        exact px
    · rw [upd_same, List.map_append]; rfl
  · obtain ⟨i0, ns, len, hp, hd⟩ := p
    exact k ns D H' len hp i0 hD hd
end
/-! ### two displays of the same -/
theorem neF_same {K : PySem.W.Frag} {H : Hp} {p q : Addr} {xs : List V} {ds : List PyData} {A B : Prop} (h1 : H p = some (.lst xs)) (h2 : H q = some (.lst xs)) (hd : DpAll K H xs ds) (hf : fine 20 (.list ds) = true) (b : B) :
    ∃ d, Dp K H (.ref p) d ∧ ∃ e, Dp K H (.ref q) e ∧ fine 20 d = true ∧ fine 20 e = true ∧ if d.eqv e = false then A else B :=
  ⟨_, .lst (sq_l h1) hd, _, .lst (sq_l h2) hd, hf, hf, by rw [eqv_same hf, if_neg (by decide)]; exact b⟩
theorem eqF_same {K : PySem.W.Frag} {H : Hp} {p q : Addr} {xs : List V} {ds : List PyData} {Q : VK} (h1 : H p = some (.lst xs)) (h2 : H q = some (.lst xs)) (hd : DpAll K H xs ds) (hf : fine 20 (.list ds) = true) (b : Q (.bl true) H) :
    ∃ d, Dp K H (.ref p) d ∧ ∃ e, Dp K H (.ref q) e ∧ fine 20 d = true ∧ fine 20 e = true ∧ Q (.bl (d.eqv e)) H :=
  ⟨_, .lst (sq_l h1) hd, _, .lst (sq_l h2) hd, hf, hf, by rw [eqv_same hf]; exact b⟩

theorem tyV_list {K : PySem.W.Frag} {p : Addr} {H : Hp} : tyV K "list" (.ref p) H = ∃ xs, SqL K H p xs := by
  unfold tyV
  simp
theorem Rp.ints {H : Hp} {S : Addr → Prop} {v : V} {ns : List Int} (h : Rp H S v (.list (ns.map PyData.int))) : ∃ a, v = .ref a ∧ S a ∧ H a = some (.lst (ns.map V.int)) := by
  cases h with
  | lst m e r => exact ⟨_, rfl, m, by rw [e, r.ints_inv]⟩

/-! ### loops -/
section
variable {K : PySem.W.Frag} {σ : L2.St} {H : Hp} {ta : TA} {tl : TE} {tb : TS} {g : TG} {j : Nat} {D : Ends} {a : Addr} {xs : List V}
theorem for_rng2 {lo hi : Int} (n : Nat) (ha : ∀ R, R [.int lo, .int hi] H → ta σ H R) (hn : (hi - lo).toNat = n) (hb : -(2 ^ 60) ≤ lo ∧ lo ≤ 2 ^ 60 ∧ -(2 ^ 60) ≤ hi ∧ hi ≤ 2 ^ 60)
    (Pv : Nat → L2.St → Hp → Prop) (h0 : Pv 0 σ H) (hd : ∀ σ H, Pv n σ H → D.nx σ H)
    (hs : ∀ (i : Nat) σ H, i < n → Pv i σ H → tb { D with nx := Pv (i + 1), ct := Pv (i + 1), bk := D.nx } (σ.set j (some (.int (lo + (i : Int))))) H) : tFor (iRng2 ta) (gName j) tb D σ H := by
  refine ha _ ⟨lo, hi, rfl, ⟨by omega, by omega, by omega, by omega⟩, ?_⟩
  rw [hn]
  exact for_range Pv h0 hs hd
theorem for_rng1 {hi : Int} (n : Nat) (ha : ∀ R, R [.int hi] H → ta σ H R) (hn : hi.toNat = n) (hb : -(2 ^ 60) ≤ hi ∧ hi ≤ 2 ^ 60)
    (Pv : Nat → L2.St → Hp → Prop) (h0 : Pv 0 σ H) (hd : ∀ σ H, Pv n σ H → D.nx σ H)
    (hs : ∀ (i : Nat) σ H, i < n → Pv i σ H → tb { D with nx := Pv (i + 1), ct := Pv (i + 1), bk := D.nx } (σ.set j (some (.int (i : Int)))) H) : tFor (iRng1 ta) (gName j) tb D σ H := by
  refine ha _ ⟨hi, rfl, by omega, by omega, ?_⟩
  rw [hn]
  refine for_range (lo := 0) Pv h0 (fun i σ H hi p => ?_) hd
  have e0 : (0 : Int) + (i : Int) = (i : Int) := Int.zero_add _
  show tb _ (σ.set j (some (.int ((0 : Int) + (i : Int))))) H
  rw [e0]
  exact hs i σ H hi p
theorem for_lst (ha : ∀ R, R (.ref a) H → tl σ H R) (hx : SqL K H a xs) (Pv : Nat → L2.St → Hp → Prop) (h0 : Pv 0 σ H) (hl : ∀ i σ' H', i ≤ xs.length → Pv i σ' H' → SqL K H' a xs) (hd : ∀ σ H, Pv xs.length σ H → D.nx σ H)
    (hs : ∀ (i : Nat) x σ H, xs[i]? = some x → Pv i σ H → g x σ H fun σ2 H2 => tb { D with nx := Pv (i + 1), ct := Pv (i + 1), bk := D.nx } σ2 H2) : tFor (iList K tl) g tb D σ H :=
  ha _ ⟨a, rfl, ⟨xs, hx⟩, for_list Pv h0 hl hs hd⟩
theorem for_tupl (ha : ∀ R, R (.ref a) H → tl σ H R) (hx : SqT K H a xs) (Pv : Nat → L2.St → Hp → Prop) (h0 : Pv 0 σ H) (hl : ∀ i σ' H', i ≤ xs.length → Pv i σ' H' → SqT K H' a xs) (hd : ∀ σ H, Pv xs.length σ H → D.nx σ H)
    (hs : ∀ (i : Nat) x σ H, xs[i]? = some x → Pv i σ H → g x σ H fun σ2 H2 => tb { D with nx := Pv (i + 1), ct := Pv (i + 1), bk := D.nx } σ2 H2) : tFor (iTup K tl) g tb D σ H :=
  ha _ ⟨a, rfl, ⟨xs, hx⟩, for_tup Pv h0 hl hs hd⟩
end

/-! loops whose walked thing is reckoned first: simp only [tFor_tup], walk, then forT_in -/
section
variable {K : PySem.W.Frag} {σ : L2.St} {H : Hp} {ta : TA} {tl : TE} {tb : TS} {g : TG} {j : Nat} {D : Ends} {a : Addr} {xs : List V}
def ForI (J : Addr → It) (S : Hp → Addr → Prop) (g : TG) (tb : TS) (D : Ends) (σ : L2.St) (x : V) (H1 : Hp) : Prop := ∃ a, x = .ref a ∧ S H1 a ∧ ∃ W : Nat → Nat → L2.St → Hp → Prop, (∃ m, W 0 m σ H1) ∧ ∀ i m σ H, W i m σ H →
  ((J a).stop i H ∧ D.nx σ H) ∨ ((J a).go i H ∧ ∃ N : L2.St → Hp → Prop, (∀ σ' H', N σ' H' → ∃ m', m' < m ∧ W (i + 1) m' σ' H') ∧ ∀ x H', (J a).yld i H x H' → g x σ H' fun σ2 H2 => tb { D with nx := N, ct := N, bk := D.nx } σ2 H2)
theorem tFor_tup : tFor (iTup K tl) g tb D σ H = tl σ H (ForI (Itt K) (fun H a => ∃ xs, SqT K H a xs) g tb D σ) := rfl
theorem tFor_lst : tFor (iList K tl) g tb D σ H = tl σ H (ForI (Itl K) (fun H a => ∃ xs, SqL K H a xs) g tb D σ) := rfl
theorem forT_in (hx : SqT K H a xs) (Pv : Nat → L2.St → Hp → Prop) (h0 : Pv 0 σ H) (hl : ∀ i σ' H', i ≤ xs.length → Pv i σ' H' → SqT K H' a xs) (hd : ∀ σ H, Pv xs.length σ H → D.nx σ H)
    (hs : ∀ (i : Nat) x σ H, xs[i]? = some x → Pv i σ H → g x σ H fun σ2 H2 => tb { D with nx := Pv (i + 1), ct := Pv (i + 1), bk := D.nx } σ2 H2) : ForI (Itt K) (fun H a => ∃ xs, SqT K H a xs) g tb D σ (.ref a) H :=
  ⟨a, rfl, ⟨xs, hx⟩, for_tup Pv h0 hl hs hd⟩
theorem forL_in (hx : SqL K H a xs) (Pv : Nat → L2.St → Hp → Prop) (h0 : Pv 0 σ H) (hl : ∀ i σ' H', i ≤ xs.length → Pv i σ' H' → SqL K H' a xs) (hd : ∀ σ H, Pv xs.length σ H → D.nx σ H)
    (hs : ∀ (i : Nat) x σ H, xs[i]? = some x → Pv i σ H → g x σ H fun σ2 H2 => tb { D with nx := Pv (i + 1), ct := Pv (i + 1), bk := D.nx } σ2 H2) : ForI (Itl K) (fun H a => ∃ xs, SqL K H a xs) g tb D σ (.ref a) H :=
  ⟨a, rfl, ⟨xs, hx⟩, for_list Pv h0 hl hs hd⟩
end

/-! comprehensions whose walked thing is reckoned first -/
section
variable {K : PySem.W.Frag} {σ : L2.St} {H : Hp} {te tl : TE} {tt : TT} {g : TG} {j : Nat} {vs : List Nat} {Q : VK} {a : Addr} {xs : List V}
def LcI (J : Addr → It) (S : Hp → Addr → Prop) (g : TG) (tt : TT) (te : TE) (vs : List Nat) (σ : L2.St) (Q : VK) (x : V) (H1 : Hp) : Prop := ∃ a, x = .ref a ∧ S H1 a ∧ ∀ D, H1 D = none → ∃ W : Nat → Nat → Hp → Prop, (∃ m, W 0 m (upd H1 D (.lst []))) ∧ ∀ i m H, W i m H →
  ((J a).stop i H ∧ Q (.ref D) H) ∨ ((J a).go i H ∧ ∃ Nx : Hp → Prop, (∀ H', Nx H' → ∃ m', m' < m ∧ W (i + 1) m' H') ∧ ∀ x H', (J a).yld i H x H' → g x (wipe σ vs) H' fun σ2 H2 => wipe σ2 vs = wipe σ vs ∧ tt σ2 H2 fun b H3 =>
    if b = true then te σ2 H3 fun y H4 => ∃ acc, H4 D = some (.lst acc) ∧ acc.length < sizeLine ∧ Nx (upd H4 D (.lst (acc ++ [y]))) else Nx H3)
theorem tLc_tup : tLc (iTup K tl) g tt te vs σ H Q = tl σ H (LcI (Itt K) (fun H a => ∃ xs, SqT K H a xs) g tt te vs σ Q) := rfl
theorem tLc_lst : tLc (iList K tl) g tt te vs σ H Q = tl σ H (LcI (Itl K) (fun H a => ∃ xs, SqL K H a xs) g tt te vs σ Q) := rfl
theorem lcT_in (f : Nat → Bool) (d : Nat → PyData) (hx : SqT K H a xs) (hn : xs.length ≤ 1000000) (hw : ∀ x, wipe ((wipe σ vs).set j (some x)) vs = wipe σ vs)
    (ht : ∀ (i : Nat) x H1, xs[i]? = some x → Ex H H1 → ∀ R : Bool → Hp → Prop, (∀ H2, Ex H1 H2 → R (f i) H2) → tt ((wipe σ vs).set j (some x)) H1 R)
    (he : ∀ (i : Nat) x H1, xs[i]? = some x → f i = true → Ex H H1 → ∀ R : VK, (∀ v H2, Ex H1 H2 → Rp H2 (New H1) v (d i) → R v H2) → te ((wipe σ vs).set j (some x)) H1 R)
    (k : ∀ v H', Ex H H' → Rp H' (New H) v (.list (((List.range xs.length).filter f).map d)) → Q v H') : LcI (Itt K) (fun H a => ∃ xs, SqT K H a xs) (gName j) tt te vs σ Q (.ref a) H := by
  refine ⟨a, rfl, ⟨xs, hx⟩, fun D hD => ?_⟩
  refine lc_tup (xs := xs) (LcAtF H D f d) (.start hD) (fun i H' _ p => Evl.ex_t p.2.1 hx) (fun i x H' hi p => ⟨hw _, lc_stepF p ?_ (fun H1 => ht i x H1 hi) (fun hf H1 => he i x H1 hi hf)⟩) (fun H' p => ?_)
  · have := (List.getElem?_eq_some_iff.mp hi).1; omega
  · obtain ⟨p1, p2, ys, p3, p4⟩ := p
    exact k _ _ p2 (.lst p1 p3 (p4.sub fun b q => q.1))
theorem lcL_in (f : Nat → Bool) (d : Nat → PyData) (hx : SqL K H a xs) (hn : xs.length ≤ 1000000) (hw : ∀ x, wipe ((wipe σ vs).set j (some x)) vs = wipe σ vs)
    (ht : ∀ (i : Nat) x H1, xs[i]? = some x → Ex H H1 → ∀ R : Bool → Hp → Prop, (∀ H2, Ex H1 H2 → R (f i) H2) → tt ((wipe σ vs).set j (some x)) H1 R)
    (he : ∀ (i : Nat) x H1, xs[i]? = some x → f i = true → Ex H H1 → ∀ R : VK, (∀ v H2, Ex H1 H2 → Rp H2 (New H1) v (d i) → R v H2) → te ((wipe σ vs).set j (some x)) H1 R)
    (k : ∀ v H', Ex H H' → Rp H' (New H) v (.list (((List.range xs.length).filter f).map d)) → Q v H') : LcI (Itl K) (fun H a => ∃ xs, SqL K H a xs) (gName j) tt te vs σ Q (.ref a) H := by
  refine ⟨a, rfl, ⟨xs, hx⟩, fun D hD => ?_⟩
  refine lc_list (xs := xs) (LcAtF H D f d) (.start hD) (fun i H' _ p => Evl.ex_l p.2.1 hx) (fun i x H' hi p => ⟨hw _, lc_stepF p ?_ (fun H1 => ht i x H1 hi) (fun hf H1 => he i x H1 hi hf)⟩) (fun H' p => ?_)
  · have := (List.getElem?_eq_some_iff.mp hi).1; omega
  · obtain ⟨p1, p2, ys, p3, p4⟩ := p
    exact k _ _ p2 (.lst p1 p3 (p4.sub fun b q => q.1))
end

/-! the cells of a script: the first ones, and a zero cell -/
section
variable {K : PySem.W.Frag} {σ : L2.St} {H : Hp} {tb : TS} {g : TG} {D : Ends} {S : Addr} {ns : List Int}
theorem for_cells {m : Int} (hσ : σ[0]? = some (some (.ref S))) (hS : SqL K H S (ns.map V.int)) (hl : ns.length ≤ 63) (Pv : L2.St → Hp → Prop) (h0 : ∀ H0, Ex H H0 → Pv σ H0)
    (hd : ∀ H0, Ex H H0 → ∀ σ' H', Ex H0 H' → Pv σ' H' → D.nx σ' H')
    (hs : ∀ H0, Ex H H0 → ∀ (x : Int) σ' H', Ex H0 H' → Pv σ' H' → g (.int x) σ' H' fun σ2 H2 => tb { D with nx := fun σ2 H2 => Ex H0 H2 ∧ Pv σ2 H2, ct := fun σ2 H2 => Ex H0 H2 ∧ Pv σ2 H2, bk := D.nx } σ2 H2) :
    tFor (iList K (tOp rCat (tSl (rSlL K) (tVar 0) tNoPart (tPart (tC (.int m)))) (tLst (tCons (tC (.int 0)) tNil)))) g tb D σ H := by
  have main : ∀ (p p2 p3 : Addr) (cs : List V), H p = none → upd H p (.lst cs) p2 = none → upd (upd H p (.lst cs)) p2 (.lst [.int 0]) p3 = none → cs = cutV (ns.map V.int) none (some m) →
      ForI (Itl K) (fun H a => ∃ xs, SqL K H a xs) g tb D σ (.ref p3) (upd (upd (upd H p (.lst cs)) p2 (.lst [.int 0])) p3 (.lst (cs ++ [.int 0]))) := by
    rintro p p2 p3 cs hp hp2 hp3 hc
    obtain ⟨ms, hm⟩ : ∃ ms : List Int, cs ++ [V.int 0] = ms.map V.int := by
      subst hc
      unfold cutV
      refine ⟨(ns.drop (HT.sIx (ns.map V.int).length 0 none)).take (HT.sIx (ns.map V.int).length (ns.map V.int).length (some m) - HT.sIx (ns.map V.int).length 0 none) ++ [0], ?_⟩
      rw [List.map_append, List.map_take, List.map_drop]
      rfl
    rw [hm]
    have e := ((exn (o := .lst cs) hp).trans (exn (o := .lst [V.int 0]) hp2)).trans (exn (o := .lst (ms.map V.int)) hp3)
    have hL : ∀ H', Ex (upd (upd (upd H p (.lst cs)) p2 (.lst [.int 0])) p3 (.lst (ms.map V.int))) H' → SqL K H' p3 (ms.map V.int) := fun H' e => Evl.ex_l e (sq_l upd_same)
    generalize upd (upd (upd H p (.lst cs)) p2 (.lst [.int 0])) p3 (.lst (ms.map V.int)) = H0 at *
    refine forL_in (hL H0 (.refl _)) (fun _ σ' H' => Ex H0 H' ∧ Pv σ' H') ⟨.refl _, h0 H0 e⟩ (fun i σ' H' _ h => hL H' h.1) (fun σ' H' h => hd H0 e σ' H' h.1 h.2) fun i x σ' H' hx h => ?_
    rw [List.getElem?_map] at hx
    obtain ⟨y, _, rfl⟩ := Option.map_eq_some_iff.mp hx
    exact hs H0 e y σ' H' h.1 h.2
  simp only [tFor_lst]
  refine ⟨_, hσ, m, rfl, S, _, rfl, hS, ?_⟩
  intro p hp
  simp only [tLst, tCons, tC, tNil, rCat]
  refine ⟨by rw [sizeLine_eq]; decide, ?_⟩
  intro p2 hp2
  exact ⟨p, p2, _, _, rfl, rfl, exn hp2 _ _ upd_same, upd_same, by
    have := cutV_length (ns.map V.int) none (some m)
    rw [List.length_map] at this
    rw [sizeLine_eq]
    show _ + 1 ≤ _
    omega, fun p3 hp3 => main p p2 p3 _ hp hp2 hp3 rfl⟩
end

/-! comprehensions over any walked thing, a turn at a time -/
section
variable {K : PySem.W.Frag} {σ : L2.St} {H : Hp} {ta : TA} {te : TE} {tt : TT} {g : TG} {vs : List Nat} {Q : VK} {a : Addr} {xs : List V} {J : It} {n : Nat} {G : Hp → Prop} {Y : Nat → Hp → V → Hp → Prop}
theorem LcAtF.no {f : Nat → Bool} {d : Nat → PyData} {D : Addr} {i : Nat} {H' H2 : Hp} (p : LcAtF H D f d i H') (hf : f i = false) (e : Ex H' H2) : LcAtF H D f d (i + 1) H2 := by
  obtain ⟨p1, p2, ys, p3, p4⟩ := p
  refine ⟨p1, p2.trans e, ys, e D _ p3, ?_⟩
  rw [List.range_succ, List.filter_append, List.filter_cons_of_neg (by simp [hf]), List.filter_nil, List.append_nil]
  exact p4.ex e
theorem LcAtF.yes {f : Nat → Bool} {d : Nat → PyData} {D : Addr} {i : Nat} {H' H2 : Hp} {v : V} (p : LcAtF H D f d i H') (hi : i < 1000000) (hf : f i = true) (e : Ex H' H2) (hv : Rp H2 (New H') v (d i)) :
    ∃ acc, H2 D = some (.lst acc) ∧ acc.length < sizeLine ∧ LcAtF H D f d (i + 1) (upd H2 D (.lst (acc ++ [v]))) := by
  obtain ⟨p1, p2, ys, p3, p4⟩ := p
  have len : ys.length ≤ i := by
    rw [p4.len, List.length_map]
    have := List.length_filter_le f (List.range i)
    rw [List.length_range] at this
    exact this
  have keep : ∀ (b : Addr) (o : HO), New H b ∧ b ≠ D → H2 b = some o → (upd H2 D (.lst (ys ++ [v]))) b = some o := fun b o m q => by rw [upd_ne m.2]; exact q
  refine ⟨ys, e D _ p3, ?_, p1, Mo.ex_new (p2.trans e) p1 Mo.upd, ys ++ [v], upd_same, ?_⟩
  · rw [sizeLine_eq]; omega
  · rw [List.range_succ, List.filter_append, List.filter_cons_of_pos hf, List.filter_nil, List.map_append]
    refine RpA.app ((p4.ex e).keep keep fun _ q => q) (.cons ?_ .nil)
    exact (hv.sub fun b q => ⟨Evl.fresh_back p2 q, lc_step.ne_of_none' q p3⟩).keep keep fun _ q => q
/-- what a comprehension does with what it walks -/
def LcJ (J : It) (g : TG) (tt : TT) (te : TE) (vs : List Nat) (σ : L2.St) (Q : VK) (H1 : Hp) : Prop := ∀ D, H1 D = none → ∃ W : Nat → Nat → Hp → Prop, (∃ m, W 0 m (upd H1 D (.lst []))) ∧ ∀ i m H, W i m H →
  (J.stop i H ∧ Q (.ref D) H) ∨ (J.go i H ∧ ∃ Nx : Hp → Prop, (∀ H', Nx H' → ∃ m', m' < m ∧ W (i + 1) m' H') ∧ ∀ x H', J.yld i H x H' → g x (wipe σ vs) H' fun σ2 H2 => wipe σ2 vs = wipe σ vs ∧ tt σ2 H2 fun b H3 =>
    if b = true then te σ2 H3 fun y H4 => ∃ acc, H4 D = some (.lst acc) ∧ acc.length < sizeLine ∧ Nx (upd H4 D (.lst (acc ++ [y]))) else Nx H3)
theorem lcJ_in (w : Walk J n G Y) (hY : ∀ i H x H', Y i H x H' → Ex H H') (f : Nat → Bool) (d : Nat → PyData) (hn : n ≤ 1000000) (hG : ∀ H', Ex H H' → G H')
    (hs : ∀ (i : Nat) x H1 H2, i < n → Ex H H1 → Y i H1 x H2 → ∀ (R : Hp → Prop) (Rt : VK), (f i = false → ∀ H3, Ex H2 H3 → R H3) → (f i = true → ∀ v H3, Ex H2 H3 → Rp H3 (New H2) v (d i) → Rt v H3) →
      g x (wipe σ vs) H2 fun σ2 H3 => wipe σ2 vs = wipe σ vs ∧ tt σ2 H3 fun b H4 => if b = true then te σ2 H4 Rt else R H4)
    (k : ∀ v H', Ex H H' → Rp H' (New H) v (.list (((List.range n).filter f).map d)) → Q v H') : LcJ J g tt te vs σ Q H := by
  intro D hD
  refine lc_it w (LcAtF H D f d) (.start hD) (fun i H' _ p => hG H' p.2.1) (fun i x H1 H2 hi p y => ?_) (fun H' p => ?_)
  · have e := hY _ _ _ _ y
    refine hs i x H1 H2 hi p.2.1 y _ _ (fun hf H3 e3 => p.no hf (e.trans e3)) fun hf v H3 e3 hv => p.yes (by omega) hf (e.trans e3) (hv.sub fun b q => Evl.fresh_back e q)
  · obtain ⟨p1, p2, ys, p3, p4⟩ := p
    exact k _ _ p2 (.lst p1 p3 (p4.sub fun b q => q.1))
theorem lcL_g (hx : SqL K H a xs) (f : Nat → Bool) (d : Nat → PyData) (hn : xs.length ≤ 1000000)
    (hs : ∀ (i : Nat) x H1, xs[i]? = some x → Ex H H1 → ∀ (R : Hp → Prop) (Rt : VK), (f i = false → ∀ H3, Ex H1 H3 → R H3) → (f i = true → ∀ v H3, Ex H1 H3 → Rp H3 (New H1) v (d i) → Rt v H3) →
      g x (wipe σ vs) H1 fun σ2 H3 => wipe σ2 vs = wipe σ vs ∧ tt σ2 H3 fun b H4 => if b = true then te σ2 H4 Rt else R H4)
    (k : ∀ v H', Ex H H' → Rp H' (New H) v (.list (((List.range xs.length).filter f).map d)) → Q v H') : LcI (Itl K) (fun H a => ∃ xs, SqL K H a xs) g tt te vs σ Q (.ref a) H := by
  refine ⟨a, rfl, ⟨xs, hx⟩, lcJ_in walk_list ?_ f d hn (fun H' e => Evl.ex_l e hx) ?_ k⟩
  · rintro i H1 x H2 ⟨rfl, _⟩
    exact .refl _
  · rintro i x H1 H2 hi e ⟨rfl, h2⟩ R Rt k1 k2
    exact hs i x _ h2 e R Rt k1 k2
theorem range_map {α β : Type} (l : List α) (f : α → β) (d : Nat → β) (h : ∀ i x, l[i]? = some x → d i = f x) : ((List.range l.length).filter fun _ => true).map d = l.map f := by
  rw [List.filter_eq_self.mpr (fun _ _ => rfl)]
  refine List.ext_getElem? fun i => ?_
  rw [List.getElem?_map, List.getElem?_map]
  by_cases q : i < l.length
  · rw [List.getElem?_range q, List.getElem?_eq_getElem q]
    exact congrArg some (h i _ (List.getElem?_eq_getElem q))
  · rw [List.getElem?_eq_none (by rw [List.length_range]; omega), List.getElem?_eq_none (by omega)]
    rfl
theorem tLc_enum : tLc (iEnum K ta) g tt te vs σ H Q = ta σ H fun us H1 => ∃ a xs, us = [.ref a] ∧ SqL K H1 a xs ∧ LcJ (Ite K a) g tt te vs σ Q H1 := rfl
theorem lcE_in (hx : SqL K H a xs) (f : Nat → Bool) (d : Nat → PyData) (hn : xs.length ≤ 1000000)
    (hs : ∀ (i : Nat) x T H1, xs[i]? = some x → Ex H H1 → H1 T = some (.tup [.int (i : Nat), x]) → ∀ (R : Hp → Prop) (Rt : VK), (f i = false → ∀ H3, Ex H1 H3 → R H3) → (f i = true → ∀ v H3, Ex H1 H3 → Rp H3 (New H1) v (d i) → Rt v H3) →
      g (.ref T) (wipe σ vs) H1 fun σ2 H3 => wipe σ2 vs = wipe σ vs ∧ tt σ2 H3 fun b H4 => if b = true then te σ2 H4 Rt else R H4)
    (k : ∀ v H', Ex H H' → Rp H' (New H) v (.list (((List.range xs.length).filter f).map d)) → Q v H') : LcJ (Ite K a) g tt te vs σ Q H := by
  refine lcJ_in walk_enum ?_ f d hn (fun H' e => Evl.ex_l e hx) ?_ k
  · rintro i H1 x H2 ⟨T, x1, y1, rfl, hT, rfl, _⟩
    exact exn hT
  · rintro i x H1 H2 hi e ⟨T, x1, y1, rfl, hT, rfl, h1, h2⟩ R Rt k1 k2
    cases h1
    exact hs i y1 T _ h2 (e.trans (exn hT)) upd_same R Rt k1 k2
end
theorem tup_fine {ns : List Int} (h : ∀ i ∈ ns, -MED < i ∧ i < MED) (hl : ns.length ≤ 1000) : fine 20 (.tuple (ns.map PyData.int)) = true ∧ sz (.tuple (ns.map PyData.int)) ≤ 16000000 := by
  refine ⟨fineAll_ints fun i hi => med_log (h i hi).1 (h i hi).2, ?_⟩
  show szAll (ns.map PyData.int) + 3 ≤ 16000000
  rw [szAll_ints]
  omega
theorem lst_fine {ns : List Int} (h : ∀ i ∈ ns, -MED < i ∧ i < MED) (hl : ns.length ≤ 1000) : fine 20 (.list (ns.map PyData.int)) = true ∧ sz (.list (ns.map PyData.int)) ≤ 16000000 := by
  refine ⟨fineAll_ints fun i hi => med_log (h i hi).1 (h i hi).2, ?_⟩
  show szAll (ns.map PyData.int) + 3 ≤ 16000000
  rw [szAll_ints]
  omega
theorem dp_tup {K : PySem.W.Frag} {H : Hp} {a : Addr} {ns : List Int} (h : H a = some (.tup (ns.map V.int))) : Dp K H (.ref a) (.tuple (ns.map PyData.int)) := .tup (sq_t h) dpa_ints
theorem dp_lst {K : PySem.W.Frag} {H : Hp} {a : Addr} {ns : List Int} (h : H a = some (.lst (ns.map V.int))) : Dp K H (.ref a) (.list (ns.map PyData.int)) := .lst (sq_l h) dpa_ints
theorem hu1 {k : Nat} {A : Around} (r : Room k A) : A.units + 1 < cLine := by have := r.units; omega
theorem filter_range (n a b : Nat) (ha : a ≤ b) (hb : b ≤ n) : (List.range n).filter (fun i => decide (a ≤ i ∧ i < b)) = (List.range (b - a)).map (a + ·) := by
  induction n generalizing b with
  | zero =>
    rw [show b - a = 0 by omega]; rfl
  | succ n ih =>
    rw [List.range_succ, List.filter_append]
    by_cases h : b = n + 1
    · subst h
      by_cases h2 : a = n + 1
      · subst h2
        rw [Nat.sub_self, List.filter_eq_nil_iff.mpr (fun i hi h => by have := of_decide_eq_true h; omega), List.filter_cons_of_neg (by simp)]
        rfl
      · rw [show n + 1 - a = n - a + 1 by omega, List.range_succ, List.map_append, List.filter_cons_of_pos (by simp; omega), List.filter_nil, ← ih n (by omega) (Nat.le_refl _)]
        have e1 : (List.range n).filter (fun i => decide (a ≤ i ∧ i < n + 1)) = (List.range n).filter (fun i => decide (a ≤ i ∧ i < n)) := List.filter_congr fun i hi => by
          have := List.mem_range.mp hi
          exact decide_eq_decide.mpr (by omega)
        rw [e1, List.map_cons, List.map_nil, show a + (n - a) = n by omega]
    · rw [ih b ha (by omega), List.filter_cons_of_neg (by simp; omega), List.filter_nil, List.append_nil]

/-! ### isinstance by the name of a type -/
/-- v is the int n (some n), or no int (a bool is none) -/
def NotInt (K : PySem.W.Frag) (H : Hp) (v : V) : Prop := ∃ t b1 b2, TyX K H v (.type t) ∧ kitB t "int" = some b1 ∧ kitB t "bool" = some b2 ∧ (b1 && !b2) = false
def IntOr (K : PySem.W.Frag) (H : Hp) (v : V) : Option Int → Prop
  | some n => v = .int n
  | none => NotInt K H v
def whole (o : Option Int) (lo hi : Int) : Bool := match o with
  | some n => decide (lo ≤ n ∧ n ≤ hi)
  | none => false
theorem kit_int_int : kitB "int" "int" = some true := by decide +kernel
theorem kit_int_bool : kitB "int" "bool" = some false := by decide +kernel

theorem atI_0 {α : Type} {a : α} {l : List α} : atI (a :: l) 0 = some a := atI_nat (j := 0) rfl
theorem atI_1 {α : Type} {a b : α} {l : List α} : atI (a :: b :: l) 1 = some b := atI_nat (j := 1) rfl
theorem atI_2 {α : Type} {a b c : α} {l : List α} : atI (a :: b :: c :: l) 2 = some c := atI_nat (j := 2) rfl
theorem atI_3 {α : Type} {a b c d : α} {l : List α} : atI (a :: b :: c :: d :: l) 3 = some d := atI_nat (j := 3) rfl
theorem atI_4 {α : Type} {a b c d e : α} {l : List α} : atI (a :: b :: c :: d :: e :: l) 4 = some e := atI_nat (j := 4) rfl
theorem atI_5 {α : Type} {a b c d e f : α} {l : List α} : atI (a :: b :: c :: d :: e :: f :: l) 5 = some f := atI_nat (j := 5) rfl
theorem atI_m1 {α : Type} {xs : List α} {v : α} (h : xs[xs.length - 1]? = some v) : atI xs (-1) = some v := by
  have hl := (List.getElem?_eq_some_iff.mp h).1
  unfold atI ixN
  rw [if_neg (by decide), if_pos (by omega)]
  show xs[((-1 : Int) + (xs.length : Int)).toNat]? = some v
  rw [show ((-1 : Int) + (xs.length : Int)).toNat = xs.length - 1 by omega]
  exact h
theorem atI_of {α : Type} {xs : List α} {i : Int} {j : Nat} {v : α} (e : i = (j : Int)) (h : xs[j]? = some v) : atI xs i = some v := by rw [e]; exact atI_nat h
theorem ixN_of {n j : Nat} {i : Int} (e : i = (j : Int)) (h : j < n) : ixN n i = some j := by rw [e]; exact Evl.ixN_nat h
theorem ixN_30 : ixN 3 0 = some 0 := by decide
theorem ixN_31 : ixN 3 1 = some 1 := by decide
theorem ixN_32 : ixN 3 2 = some 2 := by decide
theorem iteN {c A B : Prop} [Decidable c] (h : c) (b : B) : if ¬ c then A else B := by rw [if_neg (fun n => n h)]; exact b
theorem iteY {c A B : Prop} [Decidable c] (h : c) (a : A) : if c then A else B := by rw [if_pos h]; exact a
theorem iteNo {c A B : Prop} [Decidable c] (h : ¬ c) (b : B) : if c then A else B := by rw [if_neg h]; exact b
theorem iteTF {A B : Prop} (h : B) : if true = false then A else B := by rw [if_neg (by decide)]; exact h
theorem iteFF {A B : Prop} (h : A) : if false = false then A else B := by rw [if_pos rfl]; exact h
/-! ### bounds -/
theorem big_pow {a b : Nat} (h : a * b < 100000) {x y : Nat} (hx : x ≤ 2 ^ a) (hy : y ≤ b) : ((x ^ y : Nat) : Int) < BIG := by
  have h1 : x ^ y ≤ (2 ^ a) ^ b := Nat.le_trans (Nat.pow_le_pow_left hx y) (Nat.pow_le_pow_right (Nat.pow_pos (by decide)) hy)
  rw [← Nat.pow_mul] at h1
  have h2 : (2 : Nat) ^ (a * b) < 2 ^ 100000 := Nat.pow_lt_pow_right (by decide) h
  have h3 : x ^ y < 2 ^ 100000 := Nat.lt_of_le_of_lt h1 h2
  unfold BIG
  have e : ((2 : Int) ^ 100000) = ((2 ^ 100000 : Nat) : Int) := by rw [Int.natCast_pow] <;> rfl
  rw [e]
  exact Int.ofNat_lt.mpr h3

/-! ### the end of a law -/
/-- what is known of a law's script -/
theorem passX {P : Program} {w : World} {fr : List Env} {H : Hp} {s s' : Shared} {e : Value} (h : L2.CX P w fr H s (fun _ _ _ => False) e s') : False := by
  obtain ⟨_, _, _, _, _, _, _, _, _, _, _, _, z⟩ := h
  exact z.elim
theorem med_pow {a b : Nat} (h : a * b < 1900) {x y : Nat} (hx : x ≤ 2 ^ a) (hy : y ≤ b) : ((x ^ y : Nat) : Int) < MED := by
  have h1 : x ^ y ≤ (2 ^ a) ^ b := Nat.le_trans (Nat.pow_le_pow_left hx y) (Nat.pow_le_pow_right (Nat.pow_pos (by decide)) hy)
  rw [← Nat.pow_mul] at h1
  have h2 : (2 : Nat) ^ (a * b) < 2 ^ 1900 := Nat.pow_lt_pow_right (by decide) h
  have h3 : x ^ y < 2 ^ 1900 := Nat.lt_of_le_of_lt h1 h2
  unfold MED
  have e : ((2 : Int) ^ 1900) = ((2 ^ 1900 : Nat) : Int) := by rw [Int.natCast_pow] <;> rfl
  rw [e]
  exact Int.ofNat_lt.mpr h3
theorem law_go {P : Program} {w : World} {K : PySem.W.Frag} {mg mb : Str → Option Value} {k : Nat} {fa a : Addr} {fd : FuncData} {x : Str} {sp : Sp} {s : Shared} {vs : List Value} {ns : List Int}
    (inK : K.In s.heap) (hns : s.heap.Ns mainGlobals mg) (hb : s.heap.Ns builtinsNs mb) (hbb : ∀ x : Str, x ≠ "__name__" → mb x = bootBuiltins x)
    (lim : s.heap.NoLimit) (hg : s.gens = #[]) (ha : s.heap.get? a = some { cls := .type "list", data := .seq vs.toArray })
    (hi : IntsAre vs ns) (hl : ns.length ≤ sizeLine) (hr : Room k callerA)
    (F : ∀ base : Heap, K.In base → base.Ns mainGlobals mg → GOk P w K mg base (L2.CX P w) k fa fd [x] sp)
    (bind : ∀ (s : Shared) (u : Value), BindsTo s fd ⟨[u], []⟩ [(x, u)])
    (hsp : ∀ H : Hp, Only H → SqL K H a (ns.map V.int) → sp [.ref a] H (fun v _ => v = .bl true) fun _ _ _ => False) :
    codeAny (model P w) callerA (.call (.ref fa) ⟨[.ref a], []⟩) (fun r s' => r = .ok (.ret (.bool true)) ∧ OldK s.heap s'.heap ∧ s'.os = s.os ∧ AllBare s'.gens) s := by
  have rv := vals_ints hi
  have lenV := hi.length
  suffices main : ∀ H : Hp, Only H → SqL K H a (ns.map V.int) → HOk P w H s.heap → (∀ b o, H b = some o → b = a ∧ K.lookup a = none) →
      codeAny (model P w) callerA (.call (.ref fa) ⟨[.ref a], []⟩) (fun r s' => r = .ok (.ret (.bool true)) ∧ OldK s.heap s'.heap ∧ s'.os = s.os ∧ AllBare s'.gens) s by
    cases hk : K.lookup a with
    | some o =>
      have e := (inK a o hk).symm.trans ha
      cases e
      exact main (fun _ => none) (fun _ => .inl rfl) (.inr ⟨_, vs.toArray, _, hk, rfl, rfl, rfl, by rw [List.size_toArray, lenV]; exact hl, by simpa using rv⟩)
        (fun _ _ z => nomatch z) (fun _ _ z => nomatch z)
    | none =>
      let ob : Obj := { cls := .type "list", data := .seq vs.toArray }
      have at_ : ∀ b u, (if b = a then some (HO.frz ob (.lst (ns.map V.int))) else none) = some u → b = a ∧ u = .frz ob (.lst (ns.map V.int)) := fun b u z => by
        by_cases q : b = a
        · rw [if_pos q] at z; exact ⟨q, (Option.some.inj z).symm⟩
        · rw [if_neg q] at z; cases z
      refine main (fun b => if b = a then some (.frz ob (.lst (ns.map V.int))) else none) (fun b => ?_) (.inl (.inr ⟨ob, if_pos rfl⟩)) (fun b u z => ?_) (fun b u z => ⟨(at_ b u z).1, hk⟩)
      · by_cases q : b = a
        · exact .inr ⟨_, _, if_pos q⟩
        · exact .inl (if_neg q)
      · obtain ⟨rfl, rfl⟩ := at_ b u z
        exact ⟨ha, by rw [List.length_map]; exact hl, vs, _, rv, ha⟩
  intro H hO hS hok hA
  have seen : ∀ {b : Addr} {o : Obj}, s.heap.get? b = some o → H b = none → (hidT s.heap H).get? b = some o := fun e n => hidT_get e n
  have nsK : ∀ {b : Addr} {m : Str → Option Value}, s.heap.Ns b m → (hidT s.heap H).Ns b m := by
    rintro b m ⟨o, es, ep, e, d, r⟩
    refine ⟨o, es, ep, seen e ?_, d, r⟩
    cases q : H b with
    | none => rfl
    | some u =>
      rw [(hA b u q).1, ha] at e
      cases e
      cases (show Data.seq vs.toArray _ = Data.dict es ep from d)
  have KB : K.In (hidT s.heap H) := fun b o e => seen (inK b o e) (by
    cases q : H b with
    | none => rfl
    | some u =>
      obtain ⟨e1, e2⟩ := hA b u q
      rw [e1, e2] at e
      cases e)
  obtain ⟨mc, l1, l2⟩ := lim
  have M : Mod K mg (hidT s.heap H) := ⟨KB, nsK hns, ⟨mb, nsK hb, hbb⟩, ⟨mc, nsK l1, l2⟩⟩
  have e0 : Env0 P w K mg (hidT s.heap H) callerA [] s H :=
    ⟨rfl, M, fun b o e => of_hidT e, Nat.le_of_eq (hidT_size _ _), trivial, fun b hb => (List.not_mem_nil (show b ∈ ([] : List Addr) from hb)).elim, hok, .of_eq hg⟩
  refine codeAny_mono ((F _ KB (nsK hns)).go callerA [] s H ⟨[.ref a], []⟩ [.ref a] [.ref a] _ _ hr rfl e0 (bind s (.ref a)) (.cons rfl .nil) (hsp H hO hS)) ?_
  rintro (e | fl) s' h
  · exact (passX h).elim
  · cases fl with
    | ret u =>
      obtain ⟨v, H', os, bare, un, hok', r', q⟩ := h
      cases (show v = .bl true from q)
      cases (show u = Value.bool true from r')
      refine ⟨rfl, OldK.of_keep fun b o e => ?_, os, bare⟩
      cases q : H b with
      | none => exact un.keep b o e q (fun z => List.not_mem_nil (show b ∈ ([] : List Addr) from z)) (by simp)
      | some u =>
        rcases hO b with z | ⟨ob, xs, z⟩
        · rw [q] at z; cases z
        · have e1 : s.heap.get? b = some ob := (hok b _ z).1
          have e2 : s'.heap.get? b = some ob := (hok' b _ (un.frzs b ob _ z)).1
          rw [e1] at e
          rw [e2, e]
    | _ => exact h.elim
/-- the goal behind the head, from the promise of the law's def -/
theorem walk_g {l : PySem.W.OpenLaw} {n k : Nat} {q : Program} {loose : List Str} {XP : (Str → Option Value) → Heap → Prop} {YP : World → Heap → Prop} {d : DefRec} {x : Str}
    (hn : l.most = some n) (hn2 : n ≤ sizeLine) (hdf : d.params.defaults = []) (hr : Room k callerA)
    (F : ∀ (w : World) (mg : Str → Option Value) (fa : Addr) (h : Heap), YP w h → h.Ns mainGlobals mg → mg d.name = some (.ref fa) →
      ∃ (K : PySem.W.Frag) (fd : FuncData) (sp : Sp), K.In h ∧ (∀ (s : Shared) (u : Value), BindsTo s fd ⟨[u], []⟩ [(x, u)]) ∧
        (∀ (H : Hp) (a : Addr) (ns : List Int), ns.length ≤ n → Only H → SqL K H a (ns.map V.int) → sp [.ref a] H (fun v _ => v = .bl true) fun _ _ _ => False) ∧
        ∀ base : Heap, K.In base → base.Ns mainGlobals mg → GOk l.prog w K mg base (L2.CX l.prog w) k fa fd [x] sp) :
    PySem.W.WalkO q loose XP YP l.row.toRowW d [] (fun f vs => PySem.call f vs) := by
  refine Att.attach_call hn hdf ?_
  intro w s₀ s₁ mg mb fa o pm cd doc a vs ns G Y ho hd hcd hmg hobj hints hlen hg
  obtain ⟨K, fd, sp, KX, hb, hsp, hF⟩ := F w mg fa _ Y G.T.g hmg
  exact law_go KX G.T.g G.T.b G.T.builtins G.T.nolimit hg hobj hints (Nat.le_trans hlen hn2) hr hF hb fun H hO hS => hsp H a ns hlen hO hS
theorem law_in {K : PySem.W.Frag} {H : Hp} {a : Addr} {ns : List Int} (hl : ns.length ≤ 63) (hS : SqL K H a (ns.map V.int)) {Q : VK} {E : XK} (hQ : ∀ H', Q (.bl true) H') :
    sp1 (fun x H Q _ => ∃ (a : Addr) (ns : List Int), x = .ref a ∧ SqL K H a (ns.map V.int) ∧ ns.length ≤ 63 ∧ ∀ H', Q (.bl true) H') [.ref a] H Q E := ⟨_, rfl, a, ns, rfl, hS, hl, hQ⟩
end Bs

namespace Bs
/-! ### reaches: the ways to choose, by adding up -/
def R : Nat → Nat → Nat
  | 0 => fun _ => 1
  | s + 1 => fun r => Nat.rec (motive := fun _ => Nat) 1 (fun k ih => R s (k + 1) + ih) r
theorem R_z (s : Nat) : R s 0 = 1 := by cases s <;> rfl
theorem R_0 (r : Nat) : R 0 r = 1 := rfl
theorem R_ss (s r : Nat) : R (s + 1) (r + 1) = R s (r + 1) + R (s + 1) r := rfl
theorem R_comm : ∀ s r : Nat, R s r = R r s
  | 0, r => by rw [R_0, R_z]
  | s + 1, 0 => by rw [R_0, R_z]
  | s + 1, r + 1 => by rw [R_ss, R_ss, R_comm s (r + 1), R_comm (s + 1) r, Nat.add_comm]
theorem R_pos (s r : Nat) : 0 < R s r := by
  induction s generalizing r with
  | zero => rw [R_0]; decide
  | succ s ih =>
    cases r with
    | zero => rw [R_z]; decide
    | succ r => rw [R_ss]; have := ih (r + 1); omega
/-- one slot more: times s + r + 1, over s + 1 -/
theorem R_up : ∀ s r : Nat, R (s + 1) r * (s + 1) = R s r * (s + r + 1)
  | 0, 0 => rfl
  | 0, r + 1 => by
    have ih := R_up 0 r
    rw [R_0] at ih ⊢
    rw [R_ss, R_0]
    omega
  | s + 1, 0 => by rw [R_z, R_z]
  | s + 1, r + 1 => by
    have h1 := R_up s (r + 1)
    have h2 := R_up (s + 1) r
    rw [R_ss (s + 1) r, Nat.add_mul, h2]
    rw [R_ss s r]
    rw [R_ss s r] at h1
    -- h1: (A + B)(s+1) = A (s + r + 2), A = R s (r+1), B = R (s+1) r
    generalize R s (r + 1) = A at *
    generalize R (s + 1) r = B at *
    have e1 : (A + B) * (s + 1) = A * s + A + B * s + B := by
      rw [Nat.mul_add, Nat.add_mul, Nat.mul_one]; omega
    have e2 : A * (s + (r + 1) + 1) = A * s + A * r + A + A := by
      rw [Nat.mul_add, Nat.mul_add, Nat.mul_add]; omega
    have e3 : (A + B) * (s + 1 + 1) = A * s + B * s + A + A + B + B := by
      rw [Nat.mul_add, Nat.mul_add, Nat.add_mul]; omega
    have e4 : B * (s + 1 + r + 1) = B * s + B + B * r + B := by
      rw [Nat.mul_add, Nat.mul_add, Nat.mul_add]; omega
    have e6 : ∀ X : Nat, X * (s + 1 + (r + 1) + 1) = X * s + X * r + X + X + X := fun X => by
      rw [Nat.mul_add, Nat.mul_add, Nat.mul_add, Nat.mul_add]; omega
    have e5 : (A + B) * (s + 1 + (r + 1) + 1) = A * s + A * r + A + A + A + (B * s + B * r + B + B + B) := by
      rw [Nat.add_mul, e6, e6]
    rw [e1, e2] at h1
    rw [e3, e4, e5]
    omega
theorem R_right (s r : Nat) : R s (r + 1) * (r + 1) = R s r * (s + r + 1) := by
  rw [R_comm s (r + 1), R_up r s, R_comm r s, Nat.add_comm r s]
theorem R_le : ∀ s r : Nat, R s r ≤ (r + 1) ^ s
  | 0, r => by rw [R_0, Nat.pow_zero]; exact Nat.le_refl _
  | s + 1, 0 => by rw [R_z]; exact Nat.pos_of_ne_zero (by simp)
  | s + 1, r + 1 => by
    have h1 := R_le s (r + 1)
    have h2 := R_le (s + 1) r
    rw [R_ss, Nat.pow_succ, Nat.mul_add, Nat.mul_one]
    have h3 : (r + 1) ^ (s + 1) ≤ (r + 1 + 1) ^ s * (r + 1) := by
      rw [Nat.pow_succ]
      exact Nat.mul_le_mul_right _ (Nat.pow_le_pow_left (Nat.le_succ _) s)
    omega
theorem R_mono_r (s r : Nat) : R s r ≤ R s (r + 1) := by
  cases s with
  | zero => exact Nat.le_refl _
  | succ s => rw [R_ss]; omega
theorem R_mono {s r r' : Nat} (h : r ≤ r') : R s r ≤ R s r' := by
  induction h with
  | refl => exact Nat.le_refl _
  | step _ ih => exact Nat.le_trans ih (R_mono_r _ _)
theorem R_mono_l {s s' r : Nat} (h : s ≤ s') : R s r ≤ R s' r := by
  rw [R_comm s, R_comm s']
  exact R_mono h
theorem R_one (r : Nat) : R 1 r = r + 1 := by
  induction r with
  | zero => rfl
  | succ r ih => rw [R_ss, R_0, ih]; omega
/-- with rounds that may be -1 -/
def Rz (s r : Int) : Int := if r < 0 then (if s ≤ 0 then 1 else 0) else (R s.toNat r.toNat : Nat)
theorem Rz_nat (s r : Nat) : Rz s r = (R s r : Nat) := by
  unfold Rz
  rw [if_neg (by omega)]
  rfl
theorem Rz_neg {s : Int} (h : 0 < s) : Rz s (-1) = 0 := by
  unfold Rz
  rw [if_pos (by omega), if_neg (by omega)]
theorem Rz_of {s r : Int} (hs : 0 ≤ s) (hr : 0 ≤ r) : Rz s r = (R s.toNat r.toNat : Nat) := by
  unfold Rz
  rw [if_neg (by omega)]
theorem Rz_zero {r : Int} : Rz 0 r = 1 := by
  unfold Rz
  split <;> rfl
theorem Rz_nonneg (s r : Int) : 0 ≤ Rz s r := by
  unfold Rz
  split
  · split <;> omega
  · omega
theorem Rz_pascal {s r : Int} (h1 : 1 < s) (h2 : 0 < r) : Rz s r = Rz (s - 1) r + Rz s (r - 1) := by
  obtain ⟨s, rfl⟩ := Int.eq_ofNat_of_zero_le (by omega : 0 ≤ s)
  obtain ⟨r, rfl⟩ := Int.eq_ofNat_of_zero_le (by omega : 0 ≤ r)
  obtain ⟨s, rfl⟩ : ∃ t, s = t + 1 := ⟨s - 1, by omega⟩
  obtain ⟨r, rfl⟩ : ∃ t, r = t + 1 := ⟨r - 1, by omega⟩
  rw [show ((s + 1 : Nat) : Int) - 1 = (s : Int) by omega, show ((r + 1 : Nat) : Int) - 1 = (r : Int) by omega, Rz_nat, Rz_nat, Rz_nat, R_ss]
  omega
theorem Rz_comm {s r : Int} (h1 : 0 ≤ s) (h2 : 0 ≤ r) : Rz s r = Rz r s := by
  rw [Rz_of h1 h2, Rz_of h2 h1, R_comm]
theorem Rz_one {r : Int} (h : 0 ≤ r) : Rz 1 r = r + 1 := by
  rw [Rz_of (by decide) h, show (1 : Int).toNat = 1 by rfl, R_one]
  omega
theorem Rz_r0 {s : Int} (h : 0 ≤ s) : Rz s 0 = 1 := by
  rw [Rz_of h (Int.le_refl _), show (0 : Int).toNat = 0 by rfl, R_z]
  rfl
/-- one turn of reach_of -/
theorem Rz_turn {j r : Int} (hj : 0 ≤ j) (hr : -1 ≤ r) : Rz j r * (r + (j + 1)) / (j + 1) = Rz (j + 1) r := by
  by_cases h : r < 0
  · have e : r = -1 := by omega
    subst e
    by_cases h0 : j = 0
    · subst h0; rfl
    · rw [Rz_neg (by omega), Rz_neg (by omega), Int.zero_mul, Int.zero_ediv]
  · obtain ⟨j, rfl⟩ := Int.eq_ofNat_of_zero_le hj
    obtain ⟨r, rfl⟩ := Int.eq_ofNat_of_zero_le (by omega : 0 ≤ r)
    have e1 : Rz (j : Int) r = (R j r : Nat) := Rz_nat j r
    have e2 : Rz ((j : Int) + 1) r = (R (j + 1) r : Nat) := Rz_nat (j + 1) r
    rw [e1, e2]
    have h := R_up j r
    have h2 : ((R j r : Nat) : Int) * ((r : Int) + ((j : Int) + 1)) = ((R (j + 1) r : Nat) : Int) * ((j : Int) + 1) := by
      have : (r : Int) + ((j : Int) + 1) = ((j + r + 1 : Nat) : Int) := by omega
      rw [this, show ((j : Int) + 1) = ((j + 1 : Nat) : Int) by omega, ← Int.natCast_mul, ← Int.natCast_mul, h]
    rw [h2]
    exact Int.mul_ediv_cancel _ (by omega)
/-- one turn of choosing from above: over n = s + r things, j of them -/
theorem R_turn {s r j : Nat} (hj : j < s + r) : R j (s + r - j) * (s + r - j) = R (j + 1) (s + r - (j + 1)) * (j + 1) := by
  obtain ⟨m, hm⟩ : ∃ m, s + r = j + 1 + m := ⟨s + r - (j + 1), by omega⟩
  rw [hm, show j + 1 + m - j = m + 1 by omega, show j + 1 + m - (j + 1) = m by omega]
  rw [R_right j m, R_up j m]
end Bs

namespace Bs
/-! ### rounds -/
def rhoA (s n : Nat) : Nat → Nat → Nat
  | 0, r => r
  | k + 1, r => if n ≤ R s r then r else rhoA s n k (r + 1)
/-- the least number of rounds that reach n states (1 slot or more) -/
def rhoN (n s : Nat) : Nat := rhoA s n n 0
theorem R_gt {s : Nat} (h : 1 ≤ s) (r : Nat) : r + 1 ≤ R s r := by
  have := R_mono_l (s := 1) (s' := s) (r := r) h
  rw [R_one] at this
  exact this
theorem rhoA_spec {s n : Nat} : ∀ (k r : Nat), n ≤ R s (r + k) → n ≤ R s (rhoA s n k r) ∧ r ≤ rhoA s n k r ∧ ∀ q, r ≤ q → q < rhoA s n k r → R s q < n
  | 0, r, h => ⟨h, Nat.le_refl _, fun q h1 h2 => by simp [rhoA] at h2; omega⟩
  | k + 1, r, h => by
    unfold rhoA
    split
    · rename_i h1
      exact ⟨h1, Nat.le_refl _, fun q h2 h3 => by omega⟩
    · rename_i h1
      obtain ⟨a, b, c⟩ := rhoA_spec k (r + 1) (by rw [show r + 1 + k = r + (k + 1) by omega]; exact h)
      refine ⟨a, by omega, fun q h2 h3 => ?_⟩
      by_cases e : q = r
      · subst e; omega
      · exact c q (by omega) h3
theorem rhoN_spec {n s : Nat} (h : 1 ≤ s) : n ≤ R s (rhoN n s) ∧ ∀ q, q < rhoN n s → R s q < n := by
  have h1 := R_gt h n
  obtain ⟨a, b, c⟩ := rhoA_spec (s := s) (n := n) n 0 (by rw [Nat.zero_add]; omega)
  exact ⟨a, fun q hq => c q (Nat.zero_le _) hq⟩
theorem rhoN_eq {n s r : Nat} (h : 1 ≤ s) (h1 : n ≤ R s r) (h2 : ∀ q, q < r → R s q < n) : rhoN n s = r := by
  obtain ⟨a, b⟩ := rhoN_spec (n := n) h
  rcases Nat.lt_trichotomy (rhoN n s) r with h3 | h3 | h3
  · have := h2 _ h3; omega
  · exact h3
  · have := b _ h3; omega
/-- the same over the ints -/
def rho (n s : Int) : Int := (rhoN n.toNat s.toNat : Nat)
theorem rho_nonneg (n s : Int) : 0 ≤ rho n s := by unfold rho; omega
theorem Rz_mono {s r r' : Int} (hs : 0 ≤ s) (h : r ≤ r') (h0 : -1 ≤ r) : Rz s r ≤ Rz s r' := by
  by_cases hr : r < 0
  · have e : r = -1 := by omega
    subst e
    by_cases h2 : s = 0
    · subst h2; rw [Rz_zero, Rz_zero]; exact Int.le_refl _
    · rw [Rz_neg (by omega)]; exact Rz_nonneg _ _
  · rw [Rz_of hs (by omega), Rz_of hs (by omega)]
    exact Int.ofNat_le.mpr (R_mono (by omega))
theorem Rz_gt {s r : Int} (hs : 1 ≤ s) (hr : 0 ≤ r) : r + 1 ≤ Rz s r := by
  rw [Rz_of (by omega) hr]
  have := R_gt (s := s.toNat) (by omega) r.toNat
  omega
theorem rho_reach {n s : Int} (hs : 1 ≤ s) : n ≤ Rz s (rho n s) := by
  unfold rho
  rw [Rz_of (by omega) (by omega)]
  have := (rhoN_spec (n := n.toNat) (s := s.toNat) (by omega)).1
  simp only [Int.toNat_natCast]
  omega
theorem rho_least {n s q : Int} (hn : 1 ≤ n) (hs : 1 ≤ s) (h0 : -1 ≤ q) (h : q < rho n s) : Rz s q < n := by
  by_cases hq : q < 0
  · have e : q = -1 := by omega
    subst e
    rw [Rz_neg (by omega)]; omega
  · rw [Rz_of (by omega) (by omega)]
    have := (rhoN_spec (n := n.toNat) (s := s.toNat) (by omega)).2 q.toNat (by unfold rho at h; omega)
    omega
theorem rho_eq {n s r : Int} (hn : 1 ≤ n) (hs : 1 ≤ s) (h0 : 0 ≤ r) (h1 : n ≤ Rz s r) (h2 : Rz s (r - 1) < n) : rho n s = r := by
  rcases Int.lt_trichotomy (rho n s) r with h | h | h
  · have a := rho_reach (n := n) hs
    have b := Rz_mono (s := s) (r := rho n s) (r' := r - 1) (by omega) (by omega) (by have := rho_nonneg n s; omega)
    omega
  · exact h
  · have := rho_least (q := r) hn hs (by omega) h
    omega
theorem rho_le {n s r : Int} (hn : 1 ≤ n) (hs : 1 ≤ s) (h0 : 0 ≤ r) : rho n s ≤ r ↔ n ≤ Rz s r := by
  constructor
  · intro h
    exact Int.le_trans (rho_reach hs) (Rz_mono (by omega) h (by have := rho_nonneg n s; omega))
  · intro h
    by_cases h2 : rho n s ≤ r
    · exact h2
    · have := rho_least (q := r) hn hs (by omega) (by omega)
      omega
theorem rho_lt {n s : Int} (hn : 1 ≤ n) (hs : 1 ≤ s) : rho n s < n := by
  have := (rho_le (n := n) (s := s) (r := n - 1) hn hs (by omega)).mpr (by have := Rz_gt (s := s) (r := n - 1) hs (by omega); omega)
  omega
/-! ### the least steps -/
def tz (n s : Int) : Int := rho n s * n - Rz (s + 1) (rho n s - 1)
/-- one round more or less is never more -/
theorem Rz_next {s r : Int} (hs : 0 ≤ s) (hr : 0 ≤ r) : Rz (s + 1) r = Rz s r + Rz (s + 1) (r - 1) := by
  by_cases h : r = 0
  · subst h
    rw [Rz_r0 (by omega), Rz_r0 hs, show (0 : Int) - 1 = -1 by rfl, Rz_neg (by omega)]
    rfl
  · by_cases h2 : s = 0
    · subst h2
      rw [show (0 : Int) + 1 = 1 by rfl, Rz_zero, Rz_one hr, Rz_one (by omega)]
      omega
    · have := Rz_pascal (s := s + 1) (r := r) (by omega) (by omega)
      rw [show s + 1 - 1 = s by omega] at this
      exact this
/-- the line of k rounds at n -/
def lin (n s k : Int) : Int := k * n - Rz (s + 1) (k - 1)
theorem lin_step {n s k : Int} (hs : 0 ≤ s) (hk : 0 ≤ k) : lin n s (k + 1) = lin n s k + (n - Rz s k) := by
  unfold lin
  rw [show k + 1 - 1 = k by omega, Rz_next hs hk, Int.add_mul, Int.one_mul]
  omega
theorem lin_up {n s : Int} (hs : 0 ≤ s) (k : Int) (hk : 0 ≤ k) : ∀ d : Nat, n ≤ Rz s k → lin n s (k + d) ≤ lin n s k
  | 0, _ => by simp
  | d + 1, h => by
    have ih := lin_up hs k hk d h
    have e := lin_step (n := n) (k := k + d) hs (by omega)
    have m := Rz_mono (s := s) (r := k) (r' := k + d) hs (by omega) (by omega)
    rw [show k + ((d + 1 : Nat) : Int) = k + d + 1 by omega, e]
    omega
theorem lin_down {n s : Int} (hs : 0 ≤ s) (k : Int) : ∀ d : Nat, 0 ≤ k - d → Rz s (k - 1) ≤ n → lin n s (k - d) ≤ lin n s k
  | 0, _, _ => by simp
  | d + 1, h0, h => by
    have ih := lin_down hs k d (by omega) h
    have e := lin_step (n := n) (k := k - (d + 1 : Nat)) hs h0
    have m := Rz_mono (s := s) (r := k - (d + 1 : Nat)) (r' := k - 1) hs (by omega) (by omega)
    rw [show k - ((d + 1 : Nat) : Int) + 1 = k - d by omega] at e
    omega
theorem tz_lin {n s : Int} : tz n s = lin n s (rho n s) := rfl
/-- t is the greatest of its lines -/
theorem tz_ge {n s k : Int} (hn : 1 ≤ n) (hs : 1 ≤ s) (hk : 0 ≤ k) : lin n s k ≤ tz n s := by
  rw [tz_lin]
  have h0 := rho_nonneg n s
  rcases Int.le_total (rho n s) k with h | h
  · have := lin_up (n := n) (s := s) (by omega) (rho n s) h0 (k - rho n s).toNat (rho_reach hs)
    rw [show rho n s + ((k - rho n s).toNat : Int) = k by omega] at this
    exact this
  · have h1 : Rz s (rho n s - 1) ≤ n := Int.le_of_lt (rho_least hn hs (by omega) (by omega))
    have := lin_down (n := n) (s := s) (by omega) (rho n s) (rho n s - k).toNat (by omega) h1
    rw [show rho n s - ((rho n s - k).toNat : Int) = k by omega] at this
    exact this
/-- .. and is the line of k rounds just where these reach -/
theorem tz_at {n s k : Int} (hn : 1 ≤ n) (hs : 1 ≤ s) (hk : 0 ≤ k) (h1 : Rz s (k - 1) ≤ n) (h2 : n ≤ Rz s k) : tz n s = lin n s k := by
  have h0 := rho_nonneg n s
  have hle : rho n s ≤ k := (rho_le hn hs hk).mpr h2
  by_cases e : rho n s = k
  · rw [tz_lin, e]
  · have hr := rho_reach (n := n) hs
    have hm := Rz_mono (s := s) (r := rho n s) (r' := k - 1) (by omega) (by omega) (by omega)
    have a := tz_ge (k := k) hn hs hk
    have b := lin_down (n := n) (s := s) (by omega) k (k - rho n s).toNat (by omega) h1
    rw [show k - ((k - rho n s).toNat : Int) = rho n s by omega] at b
    rw [tz_lin] at a ⊢
    omega
theorem tz_gt {n s k : Int} (hn : 1 ≤ n) (hs : 1 ≤ s) (hk : 0 ≤ k) (h : n < Rz s (k - 1) ∨ Rz s k < n) : lin n s k < tz n s := by
  rcases h with h | h
  · have hk1 : 1 ≤ k := by
      by_cases e : k = 0
      · subst e
        rw [show (0 : Int) - 1 = -1 by rfl, Rz_neg (by omega)] at h
        omega
      · omega
    have a := tz_ge (k := k - 1) hn hs (by omega)
    have e := lin_step (n := n) (s := s) (k := k - 1) (by omega) (by omega)
    rw [show k - 1 + 1 = k by omega] at e
    omega
  · have a := tz_ge (k := k + 1) hn hs (by omega)
    have e := lin_step (n := n) (s := s) (k := k) (by omega) hk
    omega
theorem rho_one {s : Int} (hs : 1 ≤ s) : rho 1 s = 0 := rho_eq (Int.le_refl _) hs (Int.le_refl _) (by rw [Rz_r0 (by omega)]; exact Int.le_refl _) (by rw [show (0 : Int) - 1 = -1 by rfl, Rz_neg (by omega)]; decide)
theorem rho_pos {n s : Int} (hn : 2 ≤ n) (hs : 1 ≤ s) : 1 ≤ rho n s := by
  have h0 := rho_nonneg n s
  have h := rho_reach (n := n) hs
  by_cases e : rho n s = 0
  · rw [e, Rz_r0 (by omega)] at h; omega
  · omega
theorem tz_one {s : Int} (hs : 1 ≤ s) : tz 1 s = 0 := by
  unfold tz
  rw [rho_one hs, show (0 : Int) - 1 = -1 by rfl, Rz_neg (by omega)]
  rfl
theorem tz_nonneg {n s : Int} (hn : 1 ≤ n) (hs : 1 ≤ s) : 0 ≤ tz n s := by
  have := tz_ge (k := 0) hn hs (Int.le_refl _)
  unfold lin at this
  rw [show (0 : Int) - 1 = -1 by rfl, Rz_neg (by omega)] at this
  omega
/-! ### splits -/
def fz (n s m : Int) : Int := m + tz (n - m) (s - 1) + tz m s
theorem lin_split {n s m r : Int} (hs : 2 ≤ s) (hr : 1 ≤ r) : m + lin (n - m) (s - 1) r + lin m s (r - 1) = lin n s r := by
  unfold lin
  have e := Rz_next (s := s) (r := r - 1) (by omega) (by omega)
  rw [show s - 1 + 1 = s by omega, show r - 1 - 1 = r - 2 by omega] at *
  rw [e, Int.mul_sub, Int.sub_mul, Int.one_mul]
  omega
/-- no split is better -/
theorem tz_le_fz {n s m : Int} (hs : 2 ≤ s) (h1 : 1 ≤ m) (h2 : m < n) : tz n s ≤ fz n s m := by
  have hr := rho_pos (n := n) (s := s) (by omega) (by omega)
  have e := lin_split (n := n) (m := m) hs hr
  have a := tz_ge (n := n - m) (s := s - 1) (k := rho n s) (by omega) (by omega) (by omega)
  have b := tz_ge (n := m) (s := s) (k := rho n s - 1) h1 (by omega) (by omega)
  unfold fz
  rw [tz_lin (n := n)]
  omega
/-- the stretch of the best ones -/
def Best (n s m : Int) : Prop := Rz s (rho n s - 2) ≤ m ∧ m ≤ Rz s (rho n s - 1) ∧ Rz (s - 1) (rho n s - 1) ≤ n - m ∧ n - m ≤ Rz (s - 1) (rho n s)
theorem tz_best {n s m : Int} (hs : 2 ≤ s) (h1 : 1 ≤ m) (h2 : m < n) (h : Best n s m) : fz n s m = tz n s := by
  have hr := rho_pos (n := n) (s := s) (by omega) (by omega)
  have e := lin_split (n := n) (m := m) hs hr
  obtain ⟨b1, b2, b3, b4⟩ := h
  have a := tz_at (n := n - m) (s := s - 1) (k := rho n s) (by omega) (by omega) (by omega) b3 b4
  have b := tz_at (n := m) (s := s) (k := rho n s - 1) h1 (by omega) (by omega) (by rw [show rho n s - 1 - 1 = rho n s - 2 by omega]; exact b1) b2
  unfold fz
  rw [a, b, tz_lin (n := n)]
  omega
theorem tz_lt_fz {n s m : Int} (hs : 2 ≤ s) (h1 : 1 ≤ m) (h2 : m < n) (h : ¬ Best n s m) : tz n s < fz n s m := by
  have hr := rho_pos (n := n) (s := s) (by omega) (by omega)
  have e := lin_split (n := n) (m := m) hs hr
  have a := tz_ge (n := n - m) (s := s - 1) (k := rho n s) (by omega) (by omega) (by omega)
  have b := tz_ge (n := m) (s := s) (k := rho n s - 1) h1 (by omega) (by omega)
  have c : lin (n - m) (s - 1) (rho n s) < tz (n - m) (s - 1) ∨ lin m s (rho n s - 1) < tz m s := by
    unfold Best at h
    by_cases q1 : Rz (s - 1) (rho n s - 1) ≤ n - m ∧ n - m ≤ Rz (s - 1) (rho n s)
    · refine .inr (tz_gt h1 (by omega) (by omega) ?_)
      rw [show rho n s - 1 - 1 = rho n s - 2 by omega]
      omega
    · exact .inl (tz_gt (by omega) (by omega) (by omega) (by omega))
  unfold fz
  rw [tz_lin (n := n)]
  omega
/-- there is a best one -/
theorem best_is {n s : Int} (hn : 2 ≤ n) (hs : 2 ≤ s) : ∃ m, 1 ≤ m ∧ m < n ∧ Best n s m := by
  have hr := rho_pos (n := n) (s := s) hn (by omega)
  have h1 := rho_reach (n := n) (s := s) (by omega)
  have h2 := rho_least (n := n) (s := s) (q := rho n s - 1) (by omega) (by omega) (by omega) (by omega)
  unfold Best
  generalize rho n s = r at *
  have e1 := Rz_next (s := s - 1) (r := r) (by omega) (by omega)
  rw [show s - 1 + 1 = s by omega] at e1
  have p1 : 1 ≤ Rz s (r - 1) := by have := Rz_gt (s := s) (r := r - 1) (by omega) (by omega); omega
  have p2 : 1 ≤ Rz (s - 1) (r - 1) := by have := Rz_gt (s := s - 1) (r := r - 1) (by omega) (by omega); omega
  have e2 := Rz_next (s := s - 1) (r := r - 1) (by omega) (by omega)
  rw [show s - 1 + 1 = s by omega, show r - 1 - 1 = r - 2 by omega] at e2
  have m1 := Rz_mono (s := s) (r := r - 2) (r' := r - 1) (by omega) (by omega) (by omega)
  have m2 := Rz_mono (s := s - 1) (r := r - 1) (r' := r) (by omega) (by omega) (by omega)
  have p0 := Rz_nonneg s (r - 2)
  -- the greatest of the lower ends
  refine ⟨max 1 (max (Rz s (r - 2)) (n - Rz (s - 1) r)), by omega, by omega, ?_⟩
  omega
/-- least and greatest best -/
def loz (n s : Int) : Int := max (max 1 (if rho n s > 1 then Rz s (rho n s - 2) else 0)) (n - Rz (s - 1) (rho n s))
def hiz (n s : Int) : Int := min (min (n - 1) (Rz s (rho n s - 1))) (n - Rz (s - 1) (rho n s - 1))
theorem best_iff {n s m : Int} (hn : 2 ≤ n) (hs : 2 ≤ s) (h1 : 1 ≤ m) (h2 : m < n) : Best n s m ↔ loz n s ≤ m ∧ m ≤ hiz n s := by
  have hr := rho_pos (n := n) (s := s) hn (by omega)
  unfold Best loz hiz
  by_cases e : rho n s > 1
  · rw [if_pos e]; omega
  · rw [if_neg e, show rho n s - 2 = -1 by omega, Rz_neg (by omega)]; omega
theorem loz_range {n s : Int} (hn : 2 ≤ n) (hs : 2 ≤ s) : 1 ≤ loz n s ∧ loz n s ≤ hiz n s ∧ hiz n s < n := by
  obtain ⟨m, h1, h2, h3⟩ := best_is hn hs
  obtain ⟨a, b⟩ := (best_iff hn hs h1 h2).mp h3
  refine ⟨?_, by omega, ?_⟩
  · unfold loz; omega
  · unfold hiz; omega
theorem tz_slot1 {n : Int} (hn : 1 ≤ n) : 2 * tz n 1 = n * (n - 1) := by
  have e : rho n 1 = n - 1 := rho_eq hn (Int.le_refl _) (by omega) (by rw [Rz_one (by omega)]; omega) (by
    by_cases h : n = 1
    · subst h; rw [show (1 : Int) - 1 - 1 = -1 by rfl, Rz_neg (by decide)]; decide
    · rw [Rz_one (by omega)]; omega)
  unfold tz
  rw [e, show (1 : Int) + 1 = 2 by rfl]
  have h2 : ∀ k : Nat, 2 * Rz 2 ((k : Int) - 1) = ((k : Int) + 1) * k := by
    intro k
    induction k with
    | zero => rw [show ((0 : Nat) : Int) - 1 = -1 by rfl, Rz_neg (by decide)]; rfl
    | succ k ih =>
      have e := Rz_next (s := 1) (r := (k : Int)) (by decide) (by omega)
      rw [show (1 : Int) + 1 = 2 by rfl, Rz_one (by omega)] at e
      rw [show ((k + 1 : Nat) : Int) - 1 = (k : Int) by omega, e]
      have e3 : (((k + 1 : Nat) : Int) + 1) * ((k + 1 : Nat) : Int) = ((k : Int) + 1) * k + 2 * ((k : Int) + 1) := by
        rw [show ((k + 1 : Nat) : Int) = (k : Int) + 1 by omega, Int.mul_add, Int.add_mul ((k : Int) + 1) 1 (k : Int)]
        omega
      rw [e3]
      omega
  obtain ⟨k, hk⟩ := Int.eq_ofNat_of_zero_le (show 0 ≤ n - 1 by omega)
  have e4 := h2 k
  rw [show n - 1 - 1 = (k : Int) - 1 by omega, hk]
  have e5 : n = (k : Int) + 1 := by omega
  rw [e5] at *
  rw [Int.mul_sub, e4, Int.mul_comm ((k : Int) + 1) (k : Int)]
  omega
end Bs

namespace Bs
theorem Rz_mono_l {s s' r : Int} (hs : 1 ≤ s) (h : s ≤ s') (hr : -1 ≤ r) : Rz s r ≤ Rz s' r := by
  by_cases h0 : r < 0
  · have e : r = -1 := by omega
    subst e
    rw [Rz_neg (by omega), Rz_neg (by omega)]
    exact Int.le_refl _
  · rw [Rz_of (by omega) (by omega), Rz_of (by omega) (by omega)]
    exact Int.ofNat_le.mpr (R_mono_l (by omega))
/-- one state more costs its rounds -/
theorem tz_succ {n s : Int} (hn : 1 ≤ n) (hs : 1 ≤ s) : tz (n + 1) s - tz n s = rho (n + 1) s := by
  have r0 := rho_pos (n := n + 1) (s := s) (by omega) hs
  have h1 := rho_reach (n := n + 1) hs
  have h2 := rho_least (n := n + 1) (s := s) (q := rho (n + 1) s - 1) (by omega) hs (by omega) (by omega)
  have e := tz_at (n := n) (s := s) (k := rho (n + 1) s) hn hs (by omega) (by omega) (by omega)
  rw [e, tz_lin]
  unfold lin
  rw [Int.mul_add, Int.mul_one]
  omega
/-- one slot more never costs -/
theorem tz_anti {n s : Int} (hn : 1 ≤ n) (hs : 1 ≤ s) : tz n (s + 1) ≤ tz n s := by
  have r0 := rho_nonneg n (s + 1)
  have a := tz_ge (n := n) (s := s) (k := rho n (s + 1)) hn hs r0
  have b := Rz_mono_l (s := s + 1) (s' := s + 1 + 1) (r := rho n (s + 1) - 1) (by omega) (by omega) (by omega)
  rw [tz_lin (s := s + 1)]
  unfold lin at *
  omega
theorem tz_low {n s : Int} (hn : 1 ≤ n) (hs : 1 ≤ s) : n - 1 ≤ tz n s := by
  have := tz_ge (n := n) (s := s) (k := 1) hn hs (by decide)
  unfold lin at this
  rw [show (1 : Int) - 1 = 0 by rfl, Rz_r0 (by omega)] at this
  omega
theorem tz_anti_le {n s : Int} (hn : 1 ≤ n) (hs : 1 ≤ s) : ∀ d : Nat, tz n (s + d) ≤ tz n s
  | 0 => by simp
  | d + 1 => by
    have := tz_anti_le hn hs d
    have := tz_anti (n := n) (s := s + d) hn (by omega)
    rw [show s + ((d + 1 : Nat) : Int) = s + d + 1 by omega]
    omega
theorem tz_anti2 {n s s' : Int} (hn : 1 ≤ n) (hs : 1 ≤ s) (h : s ≤ s') : tz n s' ≤ tz n s := by
  have := tz_anti_le (n := n) hn hs (s' - s).toNat
  rw [show s + ((s' - s).toNat : Int) = s' by omega] at this
  exact this
theorem tz_one_slot {n : Int} (hn : 1 ≤ n) : n * (n - 1) / 2 = tz n 1 := by
  have := tz_slot1 hn
  have e : n * (n - 1) = tz n 1 * 2 := by omega
  rw [e]
  exact Int.mul_ediv_cancel _ (by decide)
theorem tz_high {n s : Int} (hn : 1 ≤ n) (hs : 1 ≤ s) : tz n s ≤ n * (n - 1) / 2 := by
  rw [tz_one_slot hn]
  exact tz_anti2 hn (Int.le_refl _) hs
/-- t over k rounds is a line -/
theorem tz_line {n m s k : Int} (hm : 1 ≤ m) (hs : 1 ≤ s) (hk : 0 ≤ k) (h1 : Rz s (k - 1) ≤ m) (h2 : m ≤ n) (h3 : n ≤ Rz s k) : tz n s = tz m s + k * (n - m) := by
  rw [tz_at (n := n) (by omega) hs hk (by omega) h3, tz_at (n := m) hm hs hk h1 (by omega)]
  unfold lin
  rw [Int.mul_sub]
  omega
theorem hiz_best {n s : Int} (hn : 2 ≤ n) (hs : 2 ≤ s) : Best n s (hiz n s) := by
  obtain ⟨a, b, c⟩ := loz_range hn hs
  exact (best_iff hn hs (by omega) c).mpr ⟨b, Int.le_refl _⟩
theorem loz_best {n s : Int} (hn : 2 ≤ n) (hs : 2 ≤ s) : Best n s (loz n s) := by
  obtain ⟨a, b, c⟩ := loz_range hn hs
  exact (best_iff hn hs a (by omega)).mpr ⟨Int.le_refl _, b⟩
end Bs

namespace Bs
open PySem PySem.Spec PyProof.Rows L2
/-! ### how many steps are done how often in a best list -/
theorem cum_split {n s m j : Int} (hs : 2 ≤ s) (h1 : 1 ≤ m) (h2 : m < n) (hb : Best n s m) (hj : 0 ≤ j) : min n (Rz s j) = min (n - m) (Rz (s - 1) j) + min m (Rz s (j - 1)) := by
  obtain ⟨b1, b2, b3, b4⟩ := hb
  have r1 := rho_pos (n := n) (s := s) (by omega) (by omega)
  by_cases h : j ≤ rho n s - 1
  · have p : Rz s j = Rz (s - 1) j + Rz s (j - 1) := by
      by_cases h0 : j = 0
      · subst h0
        rw [Rz_r0 (by omega), Rz_r0 (by omega), show (0 : Int) - 1 = -1 by rfl, Rz_neg (by omega)]
        rfl
      · exact Rz_pascal (by omega) (by omega)
    have a1 := rho_least (n := n) (s := s) (q := rho n s - 1) (by omega) (by omega) (by omega) (by omega)
    have a2 := Rz_mono (s := s) (r := j) (r' := rho n s - 1) (by omega) h (by omega)
    have a3 := Rz_mono (s := s - 1) (r := j) (r' := rho n s - 1) (by omega) h (by omega)
    have a4 := Rz_mono (s := s) (r := j - 1) (r' := rho n s - 2) (by omega) (by omega) (by omega)
    omega
  · have a0 := rho_reach (n := n) (s := s) (by omega)
    have a2 := Rz_mono (s := s) (r := rho n s) (r' := j) (by omega) (by omega) (by omega)
    have a3 := Rz_mono (s := s - 1) (r := rho n s) (r' := j) (by omega) (by omega) (by omega)
    have a4 := Rz_mono (s := s) (r := rho n s - 1) (r' := j - 1) (by omega) (by omega) (by omega)
    omega
/-- the times of the steps of a best list -/
def Tms (L : List Int) (n s : Int) : Prop := (∀ t ∈ L, 1 ≤ t ∧ t < n) ∧ (L.length : Int) = n - 1 ∧ ∀ j : Int, 0 ≤ j → (L.countP (fun t => decide (t ≤ j)) : Int) + 1 = min n (Rz s j)
theorem Tms.one {s : Int} (hs : 1 ≤ s) : Tms [] 1 s := by
  refine ⟨fun t h => (nomatch h), rfl, fun j hj => ?_⟩
  have := Rz_gt (s := s) (r := j) hs hj
  show (0 : Int) + 1 = _
  omega
def downL : Nat → List Int
  | 0 => []
  | k + 1 => ((k : Int) + 1) :: downL k
theorem downL_range : ∀ k : Nat, downL k = (List.range k).map fun (i : Nat) => (k : Int) - (i : Int)
  | 0 => rfl
  | k + 1 => by
    show _ :: downL k = _
    rw [downL_range k, List.range_succ_eq_map, List.map_cons, List.map_map]
    have e0 : ((k : Int) + 1) = ((k + 1 : Nat) : Int) - ((0 : Nat) : Int) := by omega
    rw [e0]
    congr 1
    · refine List.map_congr_left fun i _ => ?_
      show (k : Int) - (i : Int) = ((k + 1 : Nat) : Int) - ((i + 1 : Nat) : Int)
      omega
theorem downL_len : ∀ k : Nat, (downL k).length = k
  | 0 => rfl
  | k + 1 => congrArg Nat.succ (downL_len k)
theorem downL_mem : ∀ {k : Nat} {t : Int}, t ∈ downL k → 1 ≤ t ∧ t ≤ k
  | k + 1, t, h => by
    rcases List.mem_cons.mp h with rfl | h
    · omega
    · have := downL_mem h
      omega
theorem downL_count : ∀ (k : Nat) (j : Int), 0 ≤ j → ((downL k).countP (fun t => decide (t ≤ j)) : Int) = min (k : Int) j
  | 0, j, h => by show (0 : Int) = min 0 j; omega
  | k + 1, j, h => by
    have ih := downL_count k j h
    show ((((k : Int) + 1) :: downL k).countP (fun t => decide (t ≤ j)) : Int) = _
    rw [List.countP_cons]
    by_cases hk : (k : Int) + 1 ≤ j
    · rw [if_pos (by simpa using hk)]; omega
    · rw [if_neg (by simpa using hk)]; omega
theorem Tms.slot1 {k : Nat} : Tms (downL k) ((k : Int) + 1) 1 := by
  refine ⟨fun t h => ?_, by rw [downL_len]; omega, fun j hj => ?_⟩
  · have := downL_mem h
    omega
  · rw [downL_count k j hj, Rz_one hj]
    omega
theorem count_shift (L : List Int) (j : Int) : (L.map (· + 1)).countP (fun t => decide (t ≤ j)) = L.countP (fun t => decide (t ≤ j - 1)) := by
  rw [List.countP_map]
  refine List.countP_congr fun t _ => ?_
  simp only [Function.comp_apply, decide_eq_true_eq]
  omega
theorem Tms.split {A B : List Int} {n s m : Int} (hs : 2 ≤ s) (h1 : 1 ≤ m) (h2 : m < n) (hb : Best n s m) (ha : Tms A m s) (hB : Tms B (n - m) (s - 1)) : Tms (A.map (· + 1) ++ [1] ++ B) n s := by
  obtain ⟨a1, a2, a3⟩ := ha
  obtain ⟨b1, b2, b3⟩ := hB
  refine ⟨fun t ht => ?_, ?_, fun j hj => ?_⟩
  · rcases List.mem_append.mp ht with ht | ht
    · rcases List.mem_append.mp ht with ht | ht
      · obtain ⟨x, hx, rfl⟩ := List.mem_map.mp ht
        have := a1 x hx
        omega
      · rw [List.mem_singleton.mp ht]
        omega
    · have := b1 t ht
      omega
  · simp only [List.length_append, List.length_map, List.length_cons, List.length_nil]
    omega
  · rw [cum_split hs h1 h2 hb hj, List.countP_append, List.countP_append, count_shift]
    have hb3 := b3 j hj
    by_cases h0 : j = 0
    · subst h0
      have z : A.countP (fun t => decide (t ≤ (0 : Int) - 1)) = 0 := by
        rw [List.countP_eq_zero]
        intro t ht
        have := a1 t ht
        simp only [decide_eq_true_eq]
        omega
      have o : [(1 : Int)].countP (fun t => decide (t ≤ (0 : Int))) = 0 := by decide
      rw [z, o, show (0 : Int) - 1 = -1 by rfl, Rz_neg (by omega)]
      omega
    · have ha3 := a3 (j - 1) (by omega)
      have o : [(1 : Int)].countP (fun t => decide (t ≤ j)) = 1 := by
        rw [List.countP_cons, if_pos (by simp only [decide_eq_true_eq]; omega)]
        rfl
      rw [o]
      omega
/-- how many are done just t times -/
def manyT (n s t : Int) : Int := min n (Rz s t) - min n (Rz s (t - 1))
theorem count_le (L : List Int) (t : Int) : L.countP (fun x => decide (x ≤ t)) = L.countP (fun x => decide (x ≤ t - 1)) + L.count t := by
  induction L with
  | nil => rfl
  | cons x L ih =>
    rw [List.countP_cons, List.countP_cons, List.count_cons, ih]
    by_cases h1 : x ≤ t - 1
    · rw [if_pos (by simp only [decide_eq_true_eq]; omega), if_pos (by simp only [decide_eq_true_eq]; omega), if_neg (by simp only [beq_iff_eq]; omega)]
      omega
    · by_cases h2 : x = t
      · rw [if_pos (by simp only [decide_eq_true_eq]; omega), if_neg (by simp only [decide_eq_true_eq]; omega), if_pos (by simp only [beq_iff_eq]; omega)]
        omega
      · rw [if_neg (by simp only [decide_eq_true_eq]; omega), if_neg (by simp only [decide_eq_true_eq]; omega), if_neg (by simp only [beq_iff_eq]; omega)]
        omega
theorem Tms.count {L : List Int} {n s t : Int} (hn : 1 ≤ n) (hs : 1 ≤ s) (h : Tms L n s) (ht : 1 ≤ t) : (L.count t : Int) = manyT n s t := by
  have h1 := h.2.2 t (by omega)
  have h2 := count_le L t
  unfold manyT
  by_cases h0 : t = 1
  · subst h0
    have z : L.countP (fun x => decide (x ≤ (1 : Int) - 1)) = 0 := by
      rw [List.countP_eq_zero]
      intro x hx
      have := h.1 x hx
      simp only [decide_eq_true_eq]
      omega
    have := Rz_r0 (s := s) (by omega)
    rw [z] at h2
    rw [show (1 : Int) - 1 = 0 by rfl, this]
    omega
  · have h3 := h.2.2 (t - 1) (by omega)
    omega
theorem manyT_pos {n s t : Int} (hn : 1 ≤ n) (hs : 1 ≤ s) (ht : 1 ≤ t) : 0 < manyT n s t ↔ t ≤ rho n s := by
  unfold manyT
  constructor
  · intro h
    refine Decidable.byContradiction fun z => ?_
    have a0 := rho_reach (n := n) (s := s) (by omega)
    have a2 := Rz_mono (s := s) (r := rho n s) (r' := t - 1) (by omega) (by omega) (by have := rho_nonneg n s; omega)
    have a3 := Rz_mono (s := s) (r := t - 1) (r' := t) (by omega) (by omega) (by omega)
    omega
  · intro h
    have a1 := rho_least (n := n) (s := s) (q := t - 1) hn hs (by omega) (by omega)
    have a3 : Rz s (t - 1) < Rz s t := by
      by_cases hs1 : s = 1
      · subst hs1
        rw [Rz_one (by omega), Rz_one (by omega)]
        omega
      · have := Rz_pascal (s := s) (r := t) (by omega) (by omega)
        have := Rz_gt (s := s - 1) (r := t) (by omega) (by omega)
        omega
    omega
theorem manyT_le {n s t : Int} (hs : 1 ≤ s) (ht : 1 ≤ t) (hn : 1 ≤ n) : 0 ≤ manyT n s t ∧ manyT n s t ≤ n := by
  unfold manyT
  have a3 := Rz_mono (s := s) (r := t - 1) (r' := t) (by omega) (by omega) (by omega)
  have := Rz_nonneg s (t - 1)
  omega
/-- the list of the times -/
def stL (n s : Int) (r : Nat) : List (Int × Int) := (List.range r).map fun (i : Nat) => ((i : Int) + 1, manyT n s ((i : Int) + 1))
theorem stL_succ {n s : Int} {r : Nat} : stL n s (r + 1) = stL n s r ++ [((r : Int) + 1, manyT n s ((r : Int) + 1))] := by
  unfold stL
  rw [List.range_succ, List.map_append]
  rfl
theorem stL_len {n s : Int} {r : Nat} : (stL n s r).length = r := by unfold stL; rw [List.length_map, List.length_range]
theorem stL_mem {n s : Int} {r : Nat} {t c : Int} : (t, c) ∈ stL n s r ↔ 1 ≤ t ∧ t ≤ r ∧ c = manyT n s t := by
  unfold stL
  rw [List.mem_map]
  constructor
  · rintro ⟨i, hi, e⟩
    have := List.mem_range.mp hi
    injection e with e1 e2
    subst e1 e2
    exact ⟨by omega, by omega, rfl⟩
  · rintro ⟨h1, h2, rfl⟩
    refine ⟨(t - 1).toNat, List.mem_range.mpr (by omega), ?_⟩
    rw [show (((t - 1).toNat : Nat) : Int) + 1 = t by omega]
/-- all of the steps -/
theorem stL_sum {n s : Int} (hn : 1 ≤ n) (hs : 1 ≤ s) : ∀ r : Nat, ((stL n s r).map (·.2)).sum = min n (Rz s r) - 1
  | 0 => by
    have := Rz_r0 (s := s) (by omega)
    show (0 : Int) = min n (Rz s (0 : Nat)) - 1
    rw [show ((0 : Nat) : Int) = 0 from rfl, this]
    omega
  | r + 1 => by
    rw [stL_succ, List.map_append, List.sum_append, stL_sum hn hs r]
    show _ + (manyT n s ((r : Int) + 1) + 0) = _
    unfold manyT
    rw [show (r : Int) + 1 - 1 = r by omega, show ((r + 1 : Nat) : Int) = (r : Int) + 1 by omega]
    omega
theorem lin_cum {n s : Int} (hn : 1 ≤ n) (hs : 1 ≤ s) : ∀ r : Nat, (r : Int) ≤ rho n s → ((stL n s r).map fun p => p.1 * p.2).sum = (if (r : Int) = rho n s then tz n s else (r : Int) * Rz s r - Rz (s + 1) ((r : Int) - 1)) 
  | 0, _ => by
    by_cases h : ((0 : Nat) : Int) = rho n s
    · rw [if_pos h]
      unfold tz
      rw [← h]
      show (0 : Int) = 0 * n - Rz (s + 1) (0 - 1)
      rw [show (0 : Int) - 1 = -1 by rfl, Rz_neg (by omega)]
      omega
    · rw [if_neg h]
      show (0 : Int) = ((0 : Nat) : Int) * Rz s _ - Rz (s + 1) (((0 : Nat) : Int) - 1)
      rw [show ((0 : Nat) : Int) - 1 = -1 by rfl, Rz_neg (by omega)]
      show (0 : Int) = 0 * _ - 0
      rw [Int.zero_mul]
      rfl
  | r + 1, hr => by
    have hr' : (r : Int) + 1 ≤ rho n s := by omega
    have ih := lin_cum hn hs r (by omega)
    rw [if_neg (by omega)] at ih
    rw [stL_succ, List.map_append, List.sum_append, ih]
    show _ + (((r : Int) + 1) * manyT n s ((r : Int) + 1) + 0) = _
    have a1 := rho_least (n := n) (s := s) (q := (r : Int)) hn hs (by omega) (by omega)
    have nx := Rz_next (s := s) (r := (r : Int)) (by omega) (by omega)
    have e0 : ((r + 1 : Nat) : Int) = (r : Int) + 1 := by omega
    rw [e0, show (r : Int) + 1 - 1 = r by omega]
    by_cases h : (r : Int) + 1 = rho n s
    · rw [if_pos h]
      have a2 := rho_reach (n := n) (s := s) hs
      have em : manyT n s ((r : Int) + 1) = n - Rz s r := by
        unfold manyT
        rw [show (r : Int) + 1 - 1 = r by omega, h]
        omega
      have et : tz n s = ((r : Int) + 1) * n - Rz (s + 1) r := by
        unfold tz
        rw [← h, show (r : Int) + 1 - 1 = r by omega]
      rw [em, et, nx, Int.mul_sub, Int.add_mul, Int.add_mul]
      omega
    · rw [if_neg h]
      have a3 := rho_least (n := n) (s := s) (q := (r : Int) + 1) hn hs (by omega) (by omega)
      have em : manyT n s ((r : Int) + 1) = Rz s ((r : Int) + 1) - Rz s r := by
        unfold manyT
        rw [show (r : Int) + 1 - 1 = r by omega]
        omega
      rw [em, nx, Int.mul_sub, Int.add_mul, Int.add_mul]
      omega
theorem stL_steps {n s : Int} (hn : 1 ≤ n) (hs : 1 ≤ s) : ((stL n s (rho n s).toNat).map fun p => p.1 * p.2).sum = tz n s := by
  have := rho_nonneg n s
  have h := lin_cum hn hs (rho n s).toNat (by omega)
  rw [if_pos (by omega)] at h
  exact h
theorem stL_all {n s : Int} (hn : 1 ≤ n) (hs : 1 ≤ s) : ((stL n s (rho n s).toNat).map (·.2)).sum = n - 1 := by
  have := rho_nonneg n s
  have h := stL_sum hn hs (rho n s).toNat
  have a := rho_reach (n := n) (s := s) hs
  rw [show (((rho n s).toNat : Nat) : Int) = rho n s by omega] at h
  omega
/-! ### counting in a dict -/
def bump : List (Int × Int) → Int → List (Int × Int)
  | [], t => [(t, 1)]
  | p :: r, t => if p.1 = t then (p.1, p.2 + 1) :: r else p :: bump r t
def getC (ps : List (Int × Int)) (t : Int) : Int := match ps.find? (fun p => decide (p.1 = t)) with
  | some p => p.2
  | none => 0
/-- the pairs that count L -/
def Cnt (ps : List (Int × Int)) (L : List Int) : Prop := (ps.map (·.1)).Nodup ∧ ∀ t c, (t, c) ∈ ps ↔ t ∈ L ∧ c = (L.count t : Int)
theorem bump_keys : ∀ (ps : List (Int × Int)) (t : Int), ∀ k, k ∈ (bump ps t).map (·.1) ↔ k ∈ ps.map (·.1) ∨ k = t
  | [], t, k => by simp [bump]
  | p :: r, t, k => by
    unfold bump
    by_cases h : p.1 = t
    · rw [if_pos h]
      simp only [List.map_cons, List.mem_cons]
      constructor
      · rintro (h1 | h1)
        · exact .inl (.inl h1)
        · exact .inl (.inr h1)
      · rintro ((h1 | h1) | h1)
        · exact .inl h1
        · exact .inr h1
        · exact .inl (h1.trans h.symm)
    · rw [if_neg h]
      simp only [List.map_cons, List.mem_cons, bump_keys r t k, or_assoc]
theorem bump_nodup : ∀ (ps : List (Int × Int)) (t : Int), (ps.map (·.1)).Nodup → ((bump ps t).map (·.1)).Nodup
  | [], t, _ => by simp [bump]
  | p :: r, t, h => by
    rw [List.map_cons, List.nodup_cons] at h
    unfold bump
    by_cases e : p.1 = t
    · rw [if_pos e, List.map_cons, List.nodup_cons]
      exact h
    · rw [if_neg e, List.map_cons, List.nodup_cons]
      refine ⟨fun z => ?_, bump_nodup r t h.2⟩
      rcases (bump_keys r t p.1).mp z with z | z
      · exact h.1 z
      · exact e z
theorem bump_mem : ∀ {ps : List (Int × Int)} {t : Int}, (ps.map (·.1)).Nodup → ∀ k c, (k, c) ∈ bump ps t ↔ if k = t then c = getC ps t + 1 else (k, c) ∈ ps
  | [], t, _, k, c => by
    show (k, c) ∈ [(t, 1)] ↔ _
    rw [List.mem_singleton, Prod.mk.injEq]
    by_cases h : k = t
    · rw [if_pos h]
      show _ ↔ c = 0 + 1
      constructor
      · exact fun z => z.2
      · exact fun z => ⟨h, z⟩
    · rw [if_neg h]
      exact ⟨fun z => absurd z.1 h, fun z => nomatch z⟩
  | p :: r, t, hn, k, c => by
    rw [List.map_cons, List.nodup_cons] at hn
    unfold bump
    by_cases e : p.1 = t
    · have g : getC (p :: r) t = p.2 := by
        unfold getC
        rw [List.find?_cons_of_pos (by simpa using e)]
      rw [if_pos e, g, List.mem_cons, Prod.mk.injEq]
      by_cases h : k = t
      · rw [if_pos h]
        constructor
        · rintro (z | z)
          · exact z.2
          · have z2 : k ∈ r.map (·.1) := List.mem_map.mpr ⟨_, z, rfl⟩
            rw [h.trans e.symm] at z2
            exact absurd z2 hn.1
        · exact fun z => .inl ⟨h.trans e.symm, z⟩
      · rw [if_neg h, List.mem_cons]
        constructor
        · rintro (z | z)
          · exact absurd (z.1.trans e) h
          · exact .inr z
        · rintro (z | z)
          · exact absurd ((congrArg Prod.fst z).trans e) h
          · exact .inr z
    · have g : getC (p :: r) t = getC r t := by
        unfold getC
        rw [List.find?_cons_of_neg (by simpa using e)]
      rw [if_neg e, g, List.mem_cons, bump_mem hn.2 k c]
      by_cases h : k = t
      · rw [if_pos h, if_pos h]
        constructor
        · rintro (z | z)
          · exact absurd ((congrArg Prod.fst z).symm.trans h) e
          · exact z
        · exact .inr
      · rw [if_neg h, if_neg h, List.mem_cons]
theorem getC_cnt {ps : List (Int × Int)} {L : List Int} (h : Cnt ps L) (t : Int) : getC ps t = (L.count t : Int) := by
  unfold getC
  cases hf : ps.find? (fun p => decide (p.1 = t)) with
  | some p =>
    have h1 := List.find?_some hf
    have h2 := List.mem_of_find?_eq_some hf
    have h1 : p.1 = t := by simpa using h1
    have := (h.2 p.1 p.2).mp h2
    rw [← h1]
    exact this.2
  | none =>
    have h1 := List.find?_eq_none.mp hf
    show (0 : Int) = _
    by_cases ht : t ∈ L
    · have := (h.2 t (L.count t)).mpr ⟨ht, rfl⟩
      exact absurd (by simp) (h1 _ this)
    · rw [List.count_eq_zero.mpr ht]
      rfl
theorem Cnt.bump {ps : List (Int × Int)} {L : List Int} (h : Cnt ps L) (t : Int) : Cnt (bump ps t) (L ++ [t]) := by
  refine ⟨bump_nodup ps t h.1, fun k c => ?_⟩
  rw [bump_mem h.1 k c, getC_cnt h t, List.mem_append, List.mem_singleton, List.count_append, List.count_singleton]
  by_cases e : k = t
  · subst e
    rw [if_pos rfl, if_pos (by simp)]
    constructor
    · exact fun z => ⟨.inr rfl, by omega⟩
    · exact fun z => by omega
  · rw [if_neg e, h.2 k c, if_neg (by simp only [beq_iff_eq]; exact fun z => e z.symm)]
    constructor
    · exact fun z => ⟨.inl z.1, by omega⟩
    · rintro ⟨z | z, z2⟩
      · exact ⟨z, by omega⟩
      · exact absurd z e
theorem Cnt.nil : Cnt [] [] := ⟨List.nodup_nil, fun t c => ⟨(fun h => nomatch h), fun h => absurd h.1 List.not_mem_nil⟩⟩
theorem Cnt.perm {ps : List (Int × Int)} {L : List Int} {n s : Int} (hn : 1 ≤ n) (hs : 1 ≤ s) (h : Cnt ps L) (ht : Tms L n s) : ps.Perm (stL n s (rho n s).toNat) := by
  have r0 := rho_nonneg n s
  have nd1 : ps.Nodup := by
    have := h.1
    unfold List.Nodup at this ⊢
    rw [List.pairwise_map] at this
    exact this.imp fun {a b} h e => h (by rw [e])
  have nd2 : (stL n s (rho n s).toNat).Nodup := by
    unfold stL List.Nodup
    rw [List.pairwise_map]
    refine List.Pairwise.imp (R := (· < ·)) (fun {a b} h e => ?_) List.pairwise_lt_range
    injection e with e1 _
    omega
  refine (List.perm_ext_iff_of_nodup nd1 nd2).mpr fun p => ?_
  obtain ⟨t, c⟩ := p
  rw [h.2 t c, stL_mem]
  constructor
  · rintro ⟨h1, rfl⟩
    have t1 := (ht.1 t h1).1
    have hc := ht.count hn hs t1
    have : 0 < L.count t := List.count_pos_iff.mpr h1
    have := (manyT_pos (n := n) (s := s) hn hs t1).mp (by omega)
    exact ⟨t1, by omega, hc⟩
  · rintro ⟨t1, t2, rfl⟩
    have hc := ht.count hn hs t1
    have := (manyT_pos (n := n) (s := s) hn hs t1).mpr (by omega)
    exact ⟨List.count_pos_iff.mp (by omega), hc.symm⟩
end Bs

namespace Bs
open PySem PySem.Spec PyProof.Rows L2 LiI
open Evl (Ex)
/-! ### sorted(d.items()), d a dict of numbers by numbers -/
def intKvs (ps : List (Int × Int)) : List (Key × V) := ps.map fun p => (Sum.inl p.1, V.int p.2)
/-- pairs of numbers, ascending -/
def SrtP (qs : List (Int × Int)) : Prop := SrtO.Srtd SrtO.lexB qs
def rItemsS : V → Hp → VK → Prop := fun x H Q => ∃ (d : Addr) (ps : List (Int × Int)), x = .ref d ∧ H d = some (.dK (intKvs ps)) ∧
  ∀ (H' : Hp) (p : Addr) (ts : List Addr) (qs : List (Int × Int)), Ex H H' → H p = none → (∀ t ∈ ts, H t = none ∧ t ≠ p) → qs.Perm ps → SrtP qs → H' p = some (.lst (ts.map V.ref)) →
    Paired (fun (t : Addr) (q : Int × Int) => H' t = some (.tup [.int q.1, .int q.2])) ts qs → Q (.ref p) H'
def tSortItems (te : TE) : TE := fun σ H Q => te σ H fun x H1 => rItemsS x H1 Q
theorem paired_of {α β : Type} {F : α → β → Prop} : ∀ {xs : List α} {ys : List β}, xs.length = ys.length → (∀ (i : Nat) x y, xs[i]? = some x → ys[i]? = some y → F x y) → Paired F xs ys
  | [], [], _, _ => .nil
  | [], _ :: _, h, _ => by cases h
  | _ :: _, [], h, _ => by cases h
  | x :: xs, y :: ys, h, k => .cons (k 0 x y rfl rfl) (paired_of (Nat.succ.inj h) fun i a b e1 e2 => k (i + 1) a b e1 e2)
section
variable {X : Cx} {e : Expr} {te : TE} {p apos cpos pos : Pos}
theorem items_laid2 {pins : List (Addr × Obj)} {σ : L2.St} {H : Hp} {s : Shared} {h' : Heap} {tk : Nat} {kvs : List (Key × V)} {vs : List (Key × Value)} {as : List Addr} (I : Inv X pins σ H s) (kv : KV kvs vs)
    (hk : ∀ b o, s.heap.get? b = some o → h'.get? b = some o) (hl : as.length = vs.length) (hG : PySem.W.KdxG (mixKind X.prog X.w) vs s.heap.objs.size h' as) :
    ∃ H' : Hp, Ex H H' ∧ (∀ t ∈ as, H t = none) ∧ (∀ b, b ∉ as → H' b = H b) ∧ Paired (fun (t : Addr) (q : Key × V) => H' t = some (.tup [kV q.1, q.2])) as kvs ∧ Inv X pins σ H' { s with heap := h', toks := tk } := by
  have lk : kvs.length = vs.length := Paired.length kv
  have nd : as.Nodup := List.Pairwise.imp (fun {a b} (h : a < b) => Nat.ne_of_lt h) hG.rise
  have new : ∀ t ∈ as, H t = none := fun t ht => I.hok.fresh (Nat.le_of_lt (hG.above t ht))
  have atP := putT_at as kvs H (by omega) nd
  have off : ∀ b, b ∉ as → putT H as kvs b = H b := fun b h1 => putT_off as kvs _ h1
  have low : ∀ b o, s.heap.get? b = some o → b ∉ as := fun b o e z => absurd (Heap.lt_size e) (Nat.not_lt.mpr (Nat.le_of_lt (hG.above b z)))
  have kp : ∀ b u, H b = some u → (putT H as kvs) b = some u := fun b u e => by
    rw [off b (fun z => by rw [new b z] at e; cases e)]
    exact e
  refine ⟨putT H as kvs, kp, new, off, atP, ?_⟩
  refine I.call' (ch := []) rfl ⟨fun b o q _ _ _ => hk b o q, fun b o q _ _ _ => ⟨o.slots, hk b o q⟩, fun b o q n _ => ?_, fun b o q _ => ⟨o, hk b o q⟩, fun b xs q => kp b _ q, fun b o u q => kp b _ q, fun b ps q => ⟨#[], by rw [kp b _ q]; simp⟩⟩ (fun b u q => ?_) I.bare fun b z => by simp at z
  · rw [off b (low b o q)]
    exact n
  · by_cases hb : b ∈ as
    · obtain ⟨j, pk, e1, e2, e3⟩ := paired_ix atP hb
      rw [e3] at q
      cases q
      obtain ⟨key, k, x, f1, f2, f3⟩ := hG.pairs j b e1
      obtain ⟨qv, g1, g2, g3⟩ := LiI.paired_get kv e2
      rw [f1] at g1
      cases g1
      have rk : RelV (kV pk.1) key := by
        rw [g2]
        exact relV_key (show keyIs k key = true from f2)
      exact ⟨by show 2 ≤ sizeLine; decide, [key, x], .cons rk (.cons g3 .nil), ⟨_, f3, rfl, _, rfl⟩⟩
    · rw [off b hb] at q
      exact (I.hok b u q).stay (fun d v _ y => hk d v y) (fun d y => kp d _ y) fun d xs y => kp d _ y
theorem pe_sortedItems (hc : X.calm = true) (he : PE X e te) (hg : Gl X "sorted") (hm : X.mg "sorted" = none) (hv : bootBuiltins "sorted" = some (.builtin "sorted")) (hbase : attributeBase e "items" X.env (eval e X.env) = eval e X.env := by rfl) (hline : (apos.endLine == cpos.line) = true := by rfl)
    (hs : starEach [.Call (.Attribute e "items" apos) [] [] cpos] X.env = (false, eval (.Call (.Attribute e "items" apos) [] [] cpos) X.env) :: starEach [] X.env := by rfl) :
    PE X (.Call (.Name "sorted" p) [.Call (.Attribute e "items" apos) [] [] cpos] [] pos) (tSortItems te) := by
  refine ⟨fun pins s σ H Q I hq => ?_⟩
  refine wpAny_Call_Name_kw (ld_blt I hg hm hv ?_)
  refine PyProof.Rows.callWith_builtin1 ?_ hs rfl
  rw [hs]
  show wpAny _ _ (spliced ((false, eval (.Call (.Attribute e "items" apos) [] [] cpos) X.env) :: backTo pos (starEach [] X.env))) _ _ s
  refine Calls.spliced_cons ?_
  refine wpAny_Call_method (T := "dict") (id := "dict.items") hbase rfl hline F.plainAttrs_dict F.slot_dict_items F.type_dict_items (thn (he.run pins s σ H _ I hq) fun u s1 ⟨x, H1, I1, rx, d, ps, ex, hd, q⟩ => ?_)
  subst ex
  obtain rfl : u = Value.ref d := rx
  obtain ⟨hz, hs0, vs, kv, hdo⟩ := I1.hok d _ hd
  obtain ⟨ep, hat⟩ := hdo.dictAt
  have lk : (intKvs ps).length = vs.length := Paired.length kv
  have I2 : Inv X pins σ H1 { s1 with heap := s1.heap.push { cls := .type "dict_items", data := .fields #[.ref d] } } := I1.kept (t' := s1.toks) fun b ob q => Heap.get?_push_of_some _ q
  refine ⟨hdo.typeIs, hdo.mapOf.noDict, ?_⟩
  show wpAny _ _ (callWith cpos (.builtin "dict.items") [.ref d] [] []) _ X.xe s1
  refine method_meetsIn F.slot_dict_items F.entry_dict_items rfl (PySem.evalArgs_none ⟨rfl, hdo.typeIs, F.args_dict_items_1 _, _, meets_dict_items (mixKind X.prog X.w) d hs0, ⟨vs, hdo⟩, ?_⟩)
  refine Calls.spliced_nil ?_
  refine Calls.call_function_entry kind_sorted plain_sorted entry_sorted (args_sorted1 _) ?_
  unfold Builtin.«sorted»
  refine wpAny_bind (m := checkCount "sorted" 1 1 _) (wpAny_pure ?_)
  refine wpAny_bind (PySem.W.kdx_collect (A := X.A.in1) (knd := mixKind X.prog X.w) (kvs := vs) (ep := ep) (I1.ok.hd hc) ⟨_, Heap.get?_push_size _ rfl, rfl, rfl⟩ (hat.push _) (by omega) fun h' tk as hk hl hG => ?_)
  obtain ⟨H2, e2, n2, off2, pr2, I3⟩ := items_laid2 (tk := tk) I2 kv hk hl hG
  have lz : (as.map Value.ref).length ≤ sizeLine := by rw [List.length_map, hl]; omega
  refine wpAny_bind (wpAny_newList ?_ lz)
  -- the pairs of the tuples
  have atI : ∀ (i : Nat) (t : Addr) (q : Int × Int), as[i]? = some t → ps[i]? = some q → H2 t = some (.tup [.int q.1, .int q.2]) := fun i t q h1 h2 => by
    obtain ⟨y, g1, g2⟩ := LiI.paired_get pr2 h1
    unfold intKvs at g1
    rw [List.getElem?_map, h2] at g1
    cases g1
    exact g2
  have lps : as.length = ps.length := by
    have : (intKvs ps).length = ps.length := by unfold intKvs; rw [List.length_map]
    omega
  let kk : V → Int × Int := fun v => match v with
    | .ref t => (match H2 t with
      | some (.tup [.int i, .int j]) => (i, j)
      | _ => (0, 0))
    | _ => (0, 0)
  have kkP : ∀ (i : Nat) (t : Addr) (q : Int × Int), as[i]? = some t → ps[i]? = some q → kk (.ref t) = q := fun i t q h1 h2 => by
    show (match H2 t with | some (.tup [.int i, .int j]) => (i, j) | _ => (0, 0)) = q
    rw [atI i t q h1 h2]
  have psOf : ∀ t ∈ as, ∃ q, H2 t = some (.tup [.int q.1, .int q.2]) ∧ kk (.ref t) = q := fun t ht => by
    obtain ⟨i, hi⟩ := List.getElem?_of_mem ht
    have hl := (List.getElem?_eq_some_iff.mp hi).1
    have h2 : ps[i]? = some ps[i] := List.getElem?_eq_getElem (by omega)
    exact ⟨_, atI i t _ hi h2, kkP i t _ hi h2⟩
  have mps : (as.map V.ref).map kk = ps := by
    refine List.ext_getElem? fun i => ?_
    rw [List.map_map, List.getElem?_map]
    by_cases hi : i < as.length
    · rw [List.getElem?_eq_getElem hi, List.getElem?_eq_getElem (show i < ps.length by omega)]
      exact congrArg some (kkP i _ _ (List.getElem?_eq_getElem hi) (List.getElem?_eq_getElem (by omega)))
    · rw [List.getElem?_eq_none (by omega), List.getElem?_eq_none (by omega)]
      rfl
  have hoL : (h'.push (seqObj "list" (as.map Value.ref).toArray 0)).get? h'.objs.size = some (seqObj "list" (as.map Value.ref).toArray 0) := Heap.get?_push_size _ rfl
  have isP : ∀ v ∈ as.map Value.ref, Srt.IsPair (h'.push (seqObj "list" (as.map Value.ref).toArray 0)) v (kk (backV v)).1 (kk (backV v)).2 := fun v hv => by
    obtain ⟨t, ht, rfl⟩ := List.mem_map.mp hv
    obtain ⟨q, hq, hkq⟩ := psOf t ht
    show Srt.IsPair _ _ (kk (.ref t)).1 (kk (.ref t)).2
    rw [hkq]
    obtain ⟨_, its2, r2, o, ho, hc2, n, hd2⟩ := I3.hok _ _ hq
    obtain ⟨u1, u2, rfl, ri, rj⟩ := vals2 r2
    obtain ⟨t1, rfl⟩ := ri
    obtain ⟨t2, rfl⟩ := rj
    exact ⟨t, o, t1, t2, n, rfl, Heap.get?_push_of_some _ ho, hc2, hd2⟩
  refine wpAny_bind (wpAny_holding (wpAny_call_entry slot_list_sort ⟨_, hoL, rfl⟩ entry_list_sort (SrtO.list_sort_ord (SrtO.swo_lex fun u => kk (backV u)) hoL lz (fun h2 => ?_) fun out hs1 hb => ⟨_, rfl, ?_⟩) (args_list_sort _)))
  · refine SrtO.pairs_sortableO (s := { s1 with heap := h'.push (seqObj "list" (as.map Value.ref).toArray 0), toks := tk }) (by omega) isP fun o e => ?_
    have e' : some o = some (seqObj "list" (as.map Value.ref).toArray 0) := e.symm.trans hoL
    cases e'
    intro c
    exact absurd (Value.type.inj c) (by decide)
  · refine wpAny_pure ⟨_, rfl, ?_⟩
    have h3 : ∀ u ∈ out, ∃ a, u = Value.ref a := fun u hu => by
      obtain ⟨a, _, rfl⟩ := List.mem_map.mp (hb.perm.mem_iff.mp hu)
      exact ⟨a, rfl⟩
    have hbV : SrtO.Stb (ltP kk) (out.map backV) (as.map V.ref) := by
      have := SrtO.Stb.map (ltP_swo kk) backV hb
      have e9 : (as.map Value.ref).map backV = as.map V.ref := by rw [List.map_map]; rfl
      rw [e9] at this
      exact this
    obtain ⟨n, hn⟩ := sortedHeap_at (out := out.toArray) hoL
    have kpN : ∀ b o, h'.get? b = some o → (sortedHeap (h'.push (seqObj "list" (as.map Value.ref).toArray 0)) h'.objs.size (as.map Value.ref) out.toArray).get? b = some o := fun b o z => by
      have lt := Heap.lt_size z
      rw [sortedHeap_old (Nat.ne_of_lt lt) (by rw [size_push']; exact Nat.lt_succ_of_lt lt)]
      exact Heap.get?_push_of_some _ z
    have lo : out.length = as.length := by
      have := hb.perm.length_eq
      rw [List.length_map] at this
      exact this
    have J : Inv X pins σ (upd H2 h'.objs.size (.lst (out.map backV))) { s1 with heap := sortedHeap (h'.push (seqObj "list" (as.map Value.ref).toArray 0)) h'.objs.size (as.map Value.ref) out.toArray, toks := tk } := by
      refine I3.laid (t' := tk) (a := h'.objs.size) kpN (Nat.le_refl _) ⟨?_, out, n, vals_back h3, hn⟩
      rw [List.length_map, lo, hl]
      omega
    have nB : H2 h'.objs.size = none := I3.hok.fresh (Nat.le_refl _)
    -- the addresses as they stand behind
    obtain ⟨ts, ets, hts⟩ : ∃ ts : List Addr, out.map backV = ts.map V.ref ∧ ∀ t ∈ ts, t ∈ as := by
      have all : ∀ l : List Value, (∀ u ∈ l, u ∈ as.map Value.ref) → ∃ ts : List Addr, l.map backV = ts.map V.ref ∧ ∀ t ∈ ts, t ∈ as := by
        intro l
        induction l with
        | nil => exact fun _ => ⟨[], rfl, fun _ h => nomatch h⟩
        | cons u l ih =>
          intro h
          obtain ⟨ts, e1, e3⟩ := ih fun v hv => h v (List.mem_cons_of_mem _ hv)
          obtain ⟨t, ht, rfl⟩ := List.mem_map.mp (h u (List.mem_cons_self ..))
          refine ⟨t :: ts, by rw [List.map_cons, List.map_cons, e1]; rfl, fun x hx => ?_⟩
          rcases List.mem_cons.mp hx with rfl | hx
          · exact ht
          · exact e3 x hx
      exact all out fun u hu => hb.perm.mem_iff.mp hu
    rw [ets] at J hbV
    have hsV : SrtO.Srtd (ltP kk) (ts.map V.ref) := by
      rw [← ets]
      exact SrtO.srtd_map hs1
    have kkT : ∀ t ∈ ts, H2 t = some (.tup [.int (kk (.ref t)).1, .int (kk (.ref t)).2]) := fun t ht => by
      obtain ⟨q, h1, h2⟩ := psOf t (hts t ht)
      rw [h2]
      exact h1
    refine ⟨.ref _, _, J, rfl, q _ _ ts ((ts.map V.ref).map kk) (e2.trans (exn nB)) (Evl.fresh_back e2 nB) (fun t ht => ⟨n2 t (hts t ht), fun z => ?_⟩) ?_ ?_ upd_same ?_⟩
    · have := kkT t ht
      rw [z, nB] at this
      cases this
    · have := (hbV.perm.map kk)
      rw [mps] at this
      exact this
    · unfold SrtP SrtO.Srtd
      rw [List.pairwise_map]
      exact hsV
    · refine paired_of (by rw [List.length_map, List.length_map]) fun i t q h1 h2 => ?_
      rw [List.map_map, List.getElem?_map, h1] at h2
      cases h2
      have ht := List.mem_of_getElem? h1
      exact exn nB _ _ (kkT t ht)
end
/-! ### list(range(i, j, -1)) -/
def tLstRg3 (ta : TA) : TE := fun σ H Q => ta σ H fun us H1 => ∃ (i j : Int), us = [.int i, .int j, .int (-1)] ∧ -(2 ^ 62) ≤ i ∧ i < 2 ^ 62 ∧ -(2 ^ 62) ≤ j ∧ j < 2 ^ 62 ∧ (i - j).toNat ≤ 2 ^ 24 ∧
  ∀ q, H1 q = none → Q (.ref q) (upd H1 q (.lst ((List.range (i - j).toNat).map fun (k : Nat) => V.int (i - (k : Int)))))
section
variable {X : Cx} {a b c : Expr} {ta : TA} {p pos p2 pos2 : Pos}
theorem pe_listRg3 (hc : X.calm = true) (hg : Gl X "list") (hm : X.mg "list" = none) (hg2 : Gl X "range") (hm2 : X.mg "range" = none) (ha : PA X [a, b, c] ta)
    (na : starEach [.Call (.Name "range" p2) [a, b, c] [] pos2] X.env = (false, eval (.Call (.Name "range" p2) [a, b, c] [] pos2) X.env) :: starEach [] X.env := by rfl)
    (hs : starEach [a, b, c] X.env = (false, eval a X.env) :: starEach [b, c] X.env := by rfl) (hpl : (backTo pos2 (starEach [b, c] X.env)).any (·.1) = false := by rfl) :
    PE X (.Call (.Name "list" p) [.Call (.Name "range" p2) [a, b, c] [] pos2] [] pos) (tLstRg3 ta) := by
  refine ⟨fun pins s σ H Q I h => ?_⟩
  refine Call_ (ld_blt I hg hm boot_list (PyProof.Rows.callWith_type1 (args_cons ?_ na) na))
  refine Call_ (ld_blt I hg2 hm2 boot_range (PyProof.Rows.callWith_type1 (thn (ha.run pos2 pins s σ H _ I h) fun us s1 ⟨vs, H1, I1, r1, q1⟩ => ?_) hs hpl))
  obtain ⟨i, j, e, b1, b2, b3, b4, b5, q⟩ := q1
  subst e
  obtain ⟨c0, c1, c2, c3⟩ := RgC.neg (i := i) (j := j) b1 b2 b3 b4
  cases r1 with
  | cons r rr =>
    cases rr with
    | cons r' rr =>
      cases rr with
      | cons r'' rr =>
        cases rr
        obtain ⟨t, rfl⟩ := r
        obtain ⟨t', rfl⟩ := r'
        obtain ⟨t'', rfl⟩ := r''
        refine call_range_3 c0 ?_ (.inl (PyProof.noPylong_small c1))
        have I2 : Inv X pins σ H1 { s1 with heap := s1.heap.push { cls := .type "range", data := .fields #[.int i t, .int j t', .int (-1) t''] } } := I1.kept (t' := s1.toks) fun b o e => Heap.get?_push_of_some _ e
        refine args_nil ?_
        refine call_list_range (n := (i - j).toNat) (I2.ok.hd hc) (IsRange.new ..) c2 c3 b5 fun h' tk acc c' hk e' hi => ?_
        refine ⟨.ref _, upd H1 _ (.lst ((List.range (i - j).toNat).map fun (k : Nat) => V.int (i - (k : Int)))), I2.laid hk (Nat.le_refl _) (show ObjOk X.prog X.w _ _ _ (.lst ((List.range (i - j).toNat).map fun (k : Nat) => V.int (i - (k : Int)))) from ⟨?_, acc.toList, c', ?_, ?_⟩), rfl, q _ (I2.hok.fresh (Nat.le_refl _))⟩
        · rw [List.length_map, List.length_range, sizeLine_eq]; omega
        · have el : acc.toList.length = (i - j).toNat := by rw [Array.length_toList]; exact hi.1
          rw [← el]
          refine vals_of_get acc.toList _ fun k u hk => ?_
          obtain ⟨t, rfl⟩ := hi.2 k u (by rw [← hk, Array.getElem?_toList])
          exact ⟨t, by rw [show i - (k : Int) = i + (k : Nat) * (-1) by omega]⟩
        · rw [Array.toArray_toList]; exact e'
end
end Bs

namespace Bs
open PySem PySem.Spec PyProof.Rows L2
open Evl (Ex)
/-! ### a caught exception that is kept: it is tracked -/
def EV (cls : Value) (d : Option Addr) (a : Addr) : HO :=
  .ext fun h => ∃ oe vs, h.get? a = some oe ∧ Zc cls d oe ∧ oe.data = Data.fields vs
theorem ev_ok {P : Program} {w : World} {H : Hp} {h : Heap} {a : Addr} {cls : Value} {d : Option Addr} {oe : Obj} {vs : Array Value}
    (e : h.get? a = some oe) (z : Zc cls d oe) (q : oe.data = Data.fields vs) : ObjOk P w H h a (EV cls d a) :=
  ⟨⟨oe, vs, e, z, q⟩, ⟨oe, e⟩, fun _ _ y k => by
    obtain ⟨o, u, y1, y2⟩ := y
    exact ⟨o, u, k o y1, y2⟩⟩
theorem ev_at {P : Program} {w : World} {H : Hp} {h : Heap} {a : Addr} {cls : Value} {d : Option Addr} (hok : HOk P w H h) (he : H a = some (EV cls d a)) :
    ∃ oe vs, h.get? a = some oe ∧ Zc cls d oe ∧ oe.data = Data.fields vs := by
  have x : ObjOk P w H h a (HO.ext fun h => ∃ oe vs, h.get? a = some oe ∧ Zc cls d oe ∧ oe.data = Data.fields vs) := hok a _ he
  exact x.1
section
variable {X : Cx} {pins : List (Addr × Obj)} {σ : L2.St} {H : Hp} {s : Shared}
/-- what stands already, new to the def, is tracked from now on -/
theorem inv_track {a : Addr} {o : HO} (I : Inv X pins σ H s) (na : H a = none) (n0 : X.s_0.heap.get? a = none) (nL : a ≠ X.env.locals)
    (nC : ∀ x c, X.env.cells.lookup x = some c → c ≠ a) (nP : ∀ p ∈ X.pn ++ pins, p.1 ≠ a) (new : ObjOk X.prog X.w (upd H a o) s.heap a o) : Inv X pins σ (upd H a o) s := by
  have up : ∀ {b : Addr} {u : HO}, H b = some u → upd H a o b = some u := fun {b u} q => by rw [upd_ne (ne_of_none q na), q]
  have un : ∀ {b : Addr}, b ≠ a → H b = none → upd H a o b = none := fun {b} n q => by rw [upd_ne n, q]
  refine ⟨I.ok, I.os, I.bare, ⟨I.base.keep, I.base.slot, ?_, I.base.there, ?_, ?_, ?_⟩, I.loc, I.cell, un (Ne.symm nL) I.free, ?_, ?_, ?_, I.len⟩
  · intro b u e n hx
    exact un (fun z => by rw [z, n0] at e; cases e) (I.base.free b u e n hx)
  · intro b xs e
    exact up (I.base.tups b xs e)
  · intro b u xs e
    exact up (I.base.frzs b u xs e)
  · intro b ps e
    obtain ⟨m, q⟩ := I.base.tbls b ps e
    exact ⟨m, up q⟩
  · intro x c e
    exact un (nC x c e) (I.freeC x c e)
  · intro p hp
    obtain ⟨e, n, r⟩ := I.pin p hp
    exact ⟨e, un (nP p hp) n, r⟩
  · intro b u e
    by_cases hb : b = a
    · subst hb
      rw [upd_same] at e
      cases e
      exact new
    · rw [upd_ne hb] at e
      refine (I.hok b u e).stay (fun _ _ _ q => q) (fun _ q => up q) fun _ _ q => up q
theorem inv_su (I : Inv X pins σ H s) (a : Addr) : Inv (X.suite a (X.pn ++ pins)) [] σ H s := by
  refine ⟨I.ok.suite _ _, I.os, I.bare, I.base, I.loc, I.cell, I.free, I.freeC, ?_, I.hok, I.len⟩
  intro p hp
  rw [List.append_nil] at hp
  exact I.pin p hp
theorem inv_unsu {a : Addr} {pn : List (Addr × Obj)} (I : Inv (X.suite a (X.pn ++ pins)) pn σ H s) (ok : X.Ok) : Inv X pins σ H s := by
  refine ⟨ok, I.os, I.bare, I.base, I.loc, I.cell, I.free, I.freeC, ?_, I.hok, I.len⟩
  intro p hp
  exact I.pin p (List.mem_append_left _ hp)
end
/-- try: body, except c as slot i: suite, what is caught being tracked -/
def wAsV (K : PySem.W.Frag) (c : Value) (i : Nat) (ts : TS) (Wout : WX) (D : Ends) : WX := fun cls d σ H =>
  ∃ b, PySem.W.exmOne K cls c = some b ∧
    (b = true → ∀ a, H a = none → ts ⟨fun σ' => D.nx (σ'.set i none), D.rt, fun σ' => D.bk (σ'.set i none), fun σ' => D.ct (σ'.set i none)⟩ (σ.set i (some (.ref a))) (upd H a (EV cls d a))) ∧
    (b = false → Wout cls d σ H)
def tTryV (K : PySem.W.Frag) (c : Value) (i : Nat) (tb : WX → TS) (ts : TS) (Wout : WX) : TS := fun D => tb (wAsV K c i ts Wout D) D
section
variable {X : Cx} {x n : Str} {c : Value} {i : Nat} {body su : List Stmt} {st : Stmt} {np pos pos' : Pos} {tb : WX → TS} {ts : TS} {Wout : WX}
theorem ps_try_asV (hs : X.stack = X.env :: X.outer) (hf : X.env.frame = some X.env.locals) (hex : X.ex = []) (hN : X.N.Nodup) (hi : X.N[i]? = some n) (hln : X.env.kindOf n = some .local)
    (hc : Names X x c) (tk : Takes X Wout)
    (hb : ∀ W pn xe, Takes (X.tr pn xe) W → PassesOwn (model X.prog X.w) X.A X.env xe → PSs (X.tr pn xe) body (tb W))
    (hsu : ∀ a pn, PSs (X.suite a pn) (st :: su) ts) :
    PS X (.Try body [.ExceptHandler (some (.Name x np)) (some n) (st :: su) pos'] [] [] pos) (tTryV X.K c i tb ts Wout) := by
  constructor
  intro pins s σ H D I h
  have ok := I.ok
  have frm : X.A.frames = some (X.env :: X.outer) := by
    rw [ok.frames, hs]
  apply wpAny_Try_except
  let hh : List ExceptHandler := [.ExceptHandler (some (.Name x np)) (some n) (st :: su) pos']
  let xe1 : Value → Shared → Prop := fun e t0 => wpAny (model X.prog X.w) X.A (noteFrame e X.env)
    (fun _ t1 => wpAny (model X.prog X.w) X.A (setFlight e none)
      (fun _ t2 => wpAny (model X.prog X.w) X.A (handleBy e X.env hh) (SP X pins D) X.xe t2) X.xe t1) X.xe t0
  have takes : Takes (X.tr (X.pn ++ pins) xe1) (wAsV X.K c i ts Wout D) := by
    rintro _ s' ⟨a, B, sI, pins', σ', H', cls, d, rfl, J0, nb, up, sky, na, os, ag, b, hb1, yes, no⟩
    have J : Inv X pins σ' H' sI := J0.ofTry ok
    have sky2 : Sky B (X.env :: X.outer) a (Zc cls d) X.env.locals s'.heap := by
      rw [← hs]
      exact sky
    show wpAny (model X.prog X.w) X.A (noteFrame (.ref a) X.env) _ _ _
    refine Sky.land Zc.steady frm hf sky2 ?_
    intro h3 fl3 up3
    have J3 : Inv X pins σ' H' { s' with heap := h3 } := J.landed nb fl3.1 (up.trans up3) os ag
    obtain ⟨oe3, vs3, g3, z3, d3⟩ := fl3.there
    have noFr : a ∉ frs (X.env :: X.outer) := by
      intro hm
      obtain ⟨_, o', e', hnf⟩ := fl3.2.2.1.mem hm
      rw [g3] at e'
      cases e'
      exact hnf _ d3
    have nL : a ≠ X.env.locals := by
      intro z
      exact noFr (List.mem_filterMap.mpr ⟨X.env, List.mem_cons_self, by rw [hf, z]⟩)
    have nF : a ∉ X.fs := by
      intro hm
      obtain ⟨e, he, q⟩ := List.mem_filterMap.mp hm
      exact noFr (List.mem_filterMap.mpr ⟨e, List.mem_cons_of_mem _ he, q⟩)
    have Ba : B.get? a = none := fl3.2.1
    have noFs : a ∉ frs X.stack := by
      rw [hs]
      exact noFr
    have S3 := J3.suite g3 d3 na nL nF
    refine wpAny_handleBy_cons (codeAny_handlers_test ?_) (by intro q; cases q)
    have LT : PySem.W.Looks (model X.prog X.w) h3 (typeOf (.ref a)) cls := by
      intro A Q E s k q
      exact wpAny_typeOf_ref (k _ _ g3) (by rw [z3.1]; exact q)
    have LM := PySem.W.exm_one (M := model X.prog X.w) (J3.kIn) LT hb1
    have named : ∀ {Q : Value → Shared → Prop} {E : Value → Shared → Prop}, Q c { s' with heap := h3 } →
        wpAny (model X.prog X.w) (X.A.mark (some (.ref a))) (eval (.Name x np) X.env) Q E { s' with heap := h3 } := by
      intro Q E q
      obtain ⟨hg, hdb, hm | ⟨hm, hv, hnn⟩⟩ := hc
      · exact ld_glob (X := X.suite a ((a, oe3) :: (X.pn ++ pins))) S3 hg hm q hdb
      · exact ld_blt (X := X.suite a ((a, oe3) :: (X.pn ++ pins))) S3 hg hm hv q hnn hdb
    apply named
    apply LM.here
    cases b with
    | false =>
      show wpAny _ X.A (handleBy (.ref a) X.env []) _ _ _
      apply wpAny_handleBy_nil
      obtain ⟨_, _, _, oe, vs, T, oT, ts', he, _, hd, h1, _⟩ := id fl3
      have fin : wpAny (model X.prog X.w) X.A (setFlight (.ref a) X.env.frame) (fun _ s4 => wpAny (model X.prog X.w) X.A (throw (.ref a) : Sem Flow) (SP X pins D) X.xe s4) X.xe { s' with heap := h3 } := by
        rw [hf]
        refine HandSPX.setFlight_upZ fl3 fun h4 hh4 up4 => wpAny_throw (tk _ _ ?_)
        refine ⟨a, B, sI, pins, σ', H', cls, d, rfl, J, nb, (up.trans up3).trans up4, ?_, na, os, ag, no rfl⟩
        rw [hs]
        exact .inr (.inr hh4)
      unfold PySem.passOn
      refine wpAny_bind (wpAny_field he hd h1 ?_)
      rw [if_neg (by simp)]
      first
        | exact wpAny_bind (wpAny_pure (wpAny_bind fin))
        | exact wpAny_bind fin
    | true =>
      apply codeAny_handlers_suite_as
      refine HandSPX.lands_againZ fl3 ?_
      intro h4 fl4 up4
      have J4 : Inv X pins σ' H' { s' with heap := h4 } := J.landed nb fl4.1 ((up.trans up3).trans up4) os ag
      obtain ⟨oe4, vs4, g4, z4, d4⟩ := fl4.there
      have n0 : X.s_0.heap.get? a = none := by
        cases e : X.s_0.heap.get? a with
        | none => rfl
        | some o =>
          obtain ⟨o', e'⟩ := J.base.there a o e (by rw [hex]; exact fun z => nomatch z)
          rw [nb a o' e' noFs] at Ba
          cases Ba
      have nC : ∀ x c, X.env.cells.lookup x = some c → c ≠ a := by
        intro y c' e z
        obtain ⟨v, o, ho, hd⟩ := J4.cell y c' e
        rw [z, g4] at ho
        cases ho
        rw [d4] at hd
        cases hd
      have nP : ∀ p ∈ X.pn ++ pins, p.1 ≠ a := by
        intro p hp z
        obtain ⟨e, _, q1, q2, _⟩ := J.pin p hp
        have nf : p.1 ∉ frs X.stack := by
          intro hm
          rw [z] at hm
          exact noFs hm
        have := nb _ _ e nf
        rw [z, Ba] at this
        cases this
      have J5 : Inv X pins σ' (upd H' a (EV cls d a)) { s' with heap := h4 } := inv_track J4 na n0 nL nC nP (ev_ok g4 z4 d4)
      refine store_ok (X := X.suite a (X.pn ++ pins)) (v := .ref a) (inv_su J5 a) hN hi (.inl hln) rfl (fun s5 S5 => ?_) (.inr hln)
      refine wpAny_mono ((hsu a (X.pn ++ pins)).run [] s5 _ _ _ S5 (yes rfl a na)) ?_ (fun _ _ z => False.elim z)
      intro f s6 hsp
      have back : ∀ {σ6 : L2.St} {H6 : Hp} {Q : Shared → Prop}, Inv (X.suite a (X.pn ++ pins)) [] σ6 H6 s6 → (∀ s7, Inv X pins (σ6.set i none) H6 s7 → Q s7) →
          wpAny (model X.prog X.w) X.A (do bindName X.env n .none; unbindBehindTheSuite X.env n pos') (fun _ s7 => Q s7) X.xe s6 := by
        intro σ6 H6 Q S6 hq
        exact gone_ok (inv_unsu S6 ok) hN hi hln hq
      cases f with
      | ret u =>
        obtain ⟨v6, σ6, H6, S6, r6, q6⟩ := hsp
        exact back S6 fun s7 J7 => ⟨_, _, _, J7, r6, q6⟩
      | next => obtain ⟨σ6, H6, S6, q6⟩ := hsp; exact back S6 fun s7 J7 => ⟨_, _, J7, q6⟩
      | brk => obtain ⟨σ6, H6, S6, q6⟩ := hsp; exact back S6 fun s7 J7 => ⟨_, _, J7, q6⟩
      | cont => obtain ⟨σ6, H6, S6, q6⟩ := hsp; exact back S6 fun s7 J7 => ⟨_, _, J7, q6⟩
  have run := (hb (wAsV X.K c i ts Wout D) (X.pn ++ pins) xe1 takes PassesOwn.looking).run [] s σ H D (I.toTry _) h
  refine wpAny_mono run ?_ (fun e s1 he => he)
  intro f s1 hsp
  cases f with
  | ret u =>
    obtain ⟨v, σ', H', J', r, q⟩ := hsp
    exact ⟨v, σ', H', J'.ofTry ok, r, q⟩
  | next =>
    obtain ⟨σ', H', J', q⟩ := hsp
    exact wpAny_execs_nil ⟨σ', H', J'.ofTry ok, q⟩
  | brk => obtain ⟨σ', H', J', q⟩ := hsp; exact ⟨σ', H', J'.ofTry ok, q⟩
  | cont => obtain ⟨σ', H', J', q⟩ := hsp; exact ⟨σ', H', J'.ofTry ok, q⟩
end

/-! ### what is asked of a kept exception -/
theorem ev_inst {P : Program} {w : World} {H : Hp} {h : Heap} {a D : Addr} {d : Option Addr} (hok : HOk P w H h) (he : H a = some (EV (.ref D) d a)) (hd : ∀ dd, d = some dd → ∃ fs, H dd = some (.xd fs)) :
    ∃ oe od, PySem.W.InstAt h a oe D od := by
  obtain ⟨oe, vs, g, z, q⟩ := ev_at hok he
  have no : PySem.W.notCls oe = true := by unfold PySem.W.notCls; rw [q] <;> rfl
  cases d with
  | none => exact ⟨oe, none, g, z.1, no, by rw [z.2]; trivial⟩
  | some dd =>
    obtain ⟨fs, hf⟩ := hd dd rfl
    have hx : ObjOk P w H h dd (.xd fs) := hok dd _ hf
    obtain ⟨mA, hns, hr⟩ := hx
    obtain ⟨od, ho, hl⟩ := lookIn_ns hns
    exact ⟨oe, some od, g, z.1, no, by rw [z.2]; exact ho⟩
def rIsV (K : PySem.W.Frag) : List V → Hp → VK → Prop := fun xs H Q => ∃ (a D : Addr) (d : Option Addr) (c : V) (cv : Value) (b : Bool), xs = [.ref a, c] ∧ H a = some (EV (.ref D) d a) ∧
  (∀ dd, d = some dd → ∃ fs, H dd = some (.xd fs)) ∧ ExcC K D ∧ (∀ u, RelV c u → u = cv) ∧ PySem.W.kitOne K (.ref D) cv = some b ∧ Q (.bl b) H
theorem call_isV {X : Cx} : CallR X (.builtin "isinstance") (rIsV X.K) := by
  intro pins s σ H xs us Q I r h
  obtain ⟨a, D, d, c, cv, b, rfl, ha, hd, C, hcv, e, q⟩ := h
  cases r with
  | cons rx rr =>
  cases rr with
  | cons rt rr =>
  cases rr
  cases rx
  cases hcv _ rt
  obtain ⟨oe, od, J⟩ := ev_inst I.hok ha hd
  obtain ⟨cd, hc, _⟩ := PySem.W.any_some C.hd
  refine PySem.W.kia_one (PySem.W.kitx_exc (by rw [hc]; rfl) C.hg C.hk C.hs C.ha C.hn C.ht C.hm) I.kIn J e (fun z => nomatch z) ?_
  intro tk
  exact ⟨.bl b, H, I.kept (t' := tk) fun _ _ z => z, rfl, q⟩
/-- e.f, e a kept exception -/
def tFldV (K : PySem.W.Frag) (f : Str) (te : TE) : TE := fun σ H Q => te σ H fun x H1 => ∃ (a C dd : Addr) (fs : List (Str × V)) (v : V), x = .ref a ∧ H1 a = some (EV (.ref C) (some dd) a) ∧ H1 dd = some (.xd fs) ∧
  XfC K C ∧ PySem.W.findIn K (.ref C) f = some none ∧ fs.lookup f = some v ∧ Q v H1
theorem pe_fldV {X : Cx} {e : Expr} {te : TE} {pos : Pos} {n : Str} (he : PE X e te) (hb : attributeBase e n X.env (eval e X.env) = eval e X.env := by rfl) : PE X (.Attribute e n pos) (tFldV X.K n te) := by
  constructor
  intro pins s σ H Q I h
  apply attr_of hb
  refine thn (he.run pins s σ H _ I h) ?_
  rintro u s1 ⟨x, H1, I1, rx, a, C, dd, fs, v, rfl, ha, hdd, T, hno, l, q⟩
  obtain rfl : u = Value.ref a := rx
  obtain ⟨oe, vs, g, z, q3⟩ := ev_at I1.hok ha
  have no : PySem.W.notCls oe = true := by unfold PySem.W.notCls; rw [q3] <;> rfl
  have hx : ObjOk X.prog X.w H1 s1.heap dd (.xd fs) := I1.hok dd _ hdd
  obtain ⟨mA, hns, hr⟩ := hx
  obtain ⟨od, ho, hl⟩ := lookIn_ns hns
  have rn := hr n
  rw [l] at rn
  obtain ⟨u, hu, ru⟩ := RelO.some_of rn
  have J : PySem.W.InstAt s1.heap a oe C (some od) := ⟨g, z.1, no, by rw [z.2]; exact ho⟩
  exact HandSPX.exc_get I1.kIn J T.ga T.gg T.exC (PySem.W.findObj_own T.hdC hno rfl (by rw [hl, hu])) (handed_of ru) ⟨v, H1, I1.tok _, ru, q⟩
/-! ### the head's facts, with own ones -/
def kX (n : Nat) (g : Addr → Option Obj) : PySem.W.Frag := He.frG g (sysModules :: He.asD g n)
def sysB (K : PySem.W.Frag) : Bool := (K.lookup sysModules).isSome
def obX (n : Nat) (cs : List (PySem.W.Frag → Bool)) (fa : List He.Fa) (fn : List He.DefD) (g : Addr → Option Obj) : Bool × He.AlD := (cs.all fun c => c (kX n g), He.obsD fa fn (kX n g))
def hookX (n : Nat) (cs : List (PySem.W.Frag → Bool)) (fa : List He.Fa) (fn : List He.DefD) : PySem.W.Hook where
  α := Bool × He.AlD
  obs := fun s => obX n cs fa fn s.heap.get?
  val := fun _ => (true, He.valD fn)
  says := fun _ h => ∃ K : PySem.W.Frag, K.In h ∧ (cs.all fun c => c K) = true ∧ He.SaysD fa fn K
  of := fun _ _ e => ⟨_, He.frG_in, congrArg (fun z : Bool × He.AlD => z.1) e, congrArg (fun z : Bool × He.AlD => z.2) e⟩
  keeps := fun _ _ _ h k => by
    obtain ⟨K, hK, c⟩ := h
    exact ⟨K, PySem.W.Frag.In.keeps hK k, c⟩
theorem obX_eq {n : Nat} {cs : List (PySem.W.Frag → Bool)} {fa : List He.Fa} {fn : List He.DefD} {g : Addr → Option Obj} {s : Shared} (h : ∀ a, g a = s.heap.get? a) : obX n cs fa fn g = (hookX n cs fa fn).obs s := by
  have e : g = s.heap.get? := funext h
  rw [e] <;> rfl
/-! ### calls whose exceptions are caught or let out -/
theorem passE {P : Program} {w : World} {K : PySem.W.Frag} {mg : Str → Option Value} {base : Heap} {N : List Str} {q : Str} {sc : Scope} {f : Addr} {cd : Value} {A : Around} {o : List Env} {s : Shared} {H : Hp} {E : XK} :
    Passes (L2.CX P w) (cxOf (L2.CX P w) P w K mg base N q sc f cd A o s H E) E := passes_call (W := fun cls d _ H => E cls d H) (takes_of rfl rfl rfl rfl) fun _ _ _ _ h => h
section
variable {X : Cx} {C : CXT} {k : Nat} {f : Addr} {fd : FuncData} {ps : List Str} {sp : Sp} {E : L2.St → XK} {x : Str} {p pos : Pos} {e : Expr} {es : List Expr} {t : TA}
theorem run_gS {pins : List (Addr × Obj)} {σ : L2.St} {H : Hp} {s : Shared} {Q : VK} {us : List Value} {vs : List V}
    (F : GOk X.prog X.w X.K X.mg X.base C k f fd ps sp) (hr : Room k X.A) (hc : Clean X.A) (hb : Binds X.K fd ps []) (hx : PassesAt C X σ (E σ))
    (I : Inv X pins σ H s) (r : Vals vs us) (h : sp vs H Q (E σ)) : wpAny (model X.prog X.w) X.A (call (.ref f) us) (EP X pins σ Q) X.xe s := by
  have len : us.length = ps.length := r.length ▸ F.arity _ _ _ _ h
  have b := hb s us I.kIn (by rw [List.append_nil]; exact len)
  rw [List.append_nil] at b
  refine wpAny_call (codeAny_mono (F.go X.A X.stack s H ⟨us, []⟩ us vs Q (E σ) hr hc I.env0 b r h) ?_)
  rintro (er | fl) s' z
  · exact hx pins H s er s' I z
  · cases fl with
    | ret u => exact I.after z
    | _ => exact z.elim
theorem pe_callGS (F : GOk X.prog X.w X.K X.mg X.base C k f fd ps sp) (hr : Room k X.A) (hc : Clean X.A) (hg : Gl X x) (hm : X.mg x = some (.ref f))
    (hk : PySem.W.keepIn X.K (.ref f) = true) (hb : Binds X.K fd ps []) (hx : ∀ σ, PassesAt C X σ (E σ)) (ha : PA X (e :: es) t)
    (hdb : (x == ("__debug__" : Str)) = false := by decide)
    (he : starEach (e :: es) X.env = (false, eval e X.env) :: starEach es X.env := by rfl)
    (hpl : (backTo pos (starEach es X.env)).any (·.1) = false := by rfl) :
    PE X (.Call (.Name x p) (e :: es) [] pos) (tCallS sp E t) := by
  constructor
  intro pins s σ H Q I h
  refine wpAny_Call_Name_kw (ld_glob I hg hm ?_ hdb)
  refine PySem.W.callWith_K (h₀ := X.base) I.ok.mod.kin hk (thn (ha.run pos pins s σ H _ I h) ?_) he hpl
  rintro us s1 ⟨vs, H1, I1, r, q⟩
  exact ⟨I1.kIn, run_gS F hr hc hb (hx σ) I1 r q⟩
end
/-! ### the classes of errors -/
def errN : Nat → Str
  | 0 => "InvalidOperations" | 1 => "InvalidCuts" | 2 => "InvalidText" | 3 => "CannotDo" | 4 => "TooLarge" | 5 => "TooDeep" | 6 => "OverBudget" | 7 => "InvalidLength" | 8 => "InvalidSlots"
  | 9 => "InvalidRounds" | 10 => "InvalidState" | 11 => "InvalidStep" | 12 => "InvalidNumber" | 13 => "InvalidBudget" | 14 => "InvalidCall" | 15 => "Nothing" | 16 => "InvalidCommand" | _ => "SlotError"
abbrev eC (K : PySem.W.Frag) (i : Nat) : Addr := He.ga K (errN i)
def excCB (K : PySem.W.Frag) (D : Addr) : Bool :=
  decide (PySem.W.findIn K (.ref D) "__getattribute__" = some (some (.builtin "BaseException.__getattribute__"))) && (decide (PySem.W.findIn K (.ref D) "__getattr__" = some none) &&
  (decide (PySem.W.subIn K (.ref D) (.type "BaseException") = some true) && (PySem.W.hasDictIn K D && (decide (PySem.W.findIn K (.ref D) "__class__" = some (some (.builtin "object.__class__"))) &&
  (decide (PySem.W.specialIn K (.builtin "object.__class__") "__get__" = some (some (.builtin "getset_descriptor.__get__"))) && (decide (PySem.W.takesIn K (.builtin "object.__class__") = some true) &&
  decide (PySem.W.mroIn K D (.type "object") = some true)))))))
theorem excCB_ok {K : PySem.W.Frag} {D : Addr} (h : excCB K D = true) : ExcC K D := by
  simp only [excCB, Bool.and_eq_true, decide_eq_true_eq] at h
  obtain ⟨h1, h2, h3, h4, h5, h6, h7, h8⟩ := h
  exact ⟨h1, h2, h3, h4, h5, h6, h7, h8⟩
/-- of one class of errors -/
def errB (K : PySem.W.Frag) (i : Nat) : Bool :=
  decide (PySem.W.nsIn K mainGlobals (errN i) = some (some (.ref (eC K i)))) && PySem.W.keepIn K (.ref (eC K i)) && decide (PySem.W.typeIn K (.ref (eC K i)) = some (.type "type")) && excCB K (eC K i) &&
  decide (PySem.W.kitOne K (.ref (eC K i)) (.type "ValueError") = some true) && decide (PySem.W.exmOne K (.ref (eC K i)) (.ref (eC K 17)) = some true) && decide (PySem.W.kitOne K (.ref (eC K i)) (.ref (eC K 17)) = some true) &&
  decide (i < 7 ∨ PySem.W.excIn K (eC K i) He.veBase "ValueError.__new__" = true)
def errsB (K : PySem.W.Frag) : Bool := (List.range 18).all (errB K) && (List.range 18).all fun i => (List.range 17).all fun j => decide (PySem.W.kitOne K (.ref (eC K i)) (.ref (eC K j)) = some (i == j))
structure Errs (K : PySem.W.Frag) (mg : Str → Option Value) : Prop where
  gl : ∀ i, i < 18 → mg (errN i) = some (.ref (eC K i))
  kp : ∀ i, i < 18 → PySem.W.keepIn K (.ref (eC K i)) = true
  ty : ∀ i, i < 18 → PySem.W.typeIn K (.ref (eC K i)) = some (.type "type")
  xc : ∀ i, i < 18 → ExcC K (eC K i)
  kitV : ∀ i, i < 18 → PySem.W.kitOne K (.ref (eC K i)) (.type "ValueError") = some true
  exm : ∀ i, i < 18 → PySem.W.exmOne K (.ref (eC K i)) (.ref (eC K 17)) = some true
  kitS : ∀ i, i < 18 → PySem.W.kitOne K (.ref (eC K i)) (.ref (eC K 17)) = some true
  tx : ∀ i, i < 18 → 7 ≤ i → PySem.W.excIn K (eC K i) He.veBase "ValueError.__new__" = true
  kit : ∀ i j, i < 18 → j < 17 → PySem.W.kitOne K (.ref (eC K i)) (.ref (eC K j)) = some (i == j)
theorem errs_ok {K : PySem.W.Frag} {h : Heap} {mg : Str → Option Value} (X : K.In h) (G : h.Ns mainGlobals mg) (c : errsB K = true) : Errs K mg := by
  obtain ⟨c1, c2⟩ := Bool.and_eq_true_iff.mp c
  have one : ∀ i, i < 18 → errB K i = true := fun i hi => List.all_eq_true.mp c1 i (List.mem_range.mpr hi)
  have two : ∀ i j, i < 18 → j < 17 → PySem.W.kitOne K (.ref (eC K i)) (.ref (eC K j)) = some (i == j) := fun i j hi hj =>
    of_decide_eq_true (List.all_eq_true.mp (List.all_eq_true.mp c2 i (List.mem_range.mpr hi)) j (List.mem_range.mpr hj))
  have all : ∀ i, i < 18 → PySem.W.nsIn K mainGlobals (errN i) = some (some (.ref (eC K i))) ∧ PySem.W.keepIn K (.ref (eC K i)) = true ∧ PySem.W.typeIn K (.ref (eC K i)) = some (.type "type") ∧ excCB K (eC K i) = true ∧
      PySem.W.kitOne K (.ref (eC K i)) (.type "ValueError") = some true ∧ PySem.W.exmOne K (.ref (eC K i)) (.ref (eC K 17)) = some true ∧ PySem.W.kitOne K (.ref (eC K i)) (.ref (eC K 17)) = some true ∧
      (i < 7 ∨ PySem.W.excIn K (eC K i) He.veBase "ValueError.__new__" = true) := fun i hi => by
    have := one i hi
    simpa only [errB, Bool.and_eq_true, decide_eq_true_eq, and_assoc] using this
  exact ⟨fun i hi => PySem.W.mg_of X G (all i hi).1, fun i hi => (all i hi).2.1, fun i hi => (all i hi).2.2.1, fun i hi => excCB_ok (all i hi).2.2.2.1, fun i hi => (all i hi).2.2.2.2.1, fun i hi => (all i hi).2.2.2.2.2.1,
    fun i hi => (all i hi).2.2.2.2.2.2.1, fun i hi h7 => (all i hi).2.2.2.2.2.2.2.resolve_left (by omega), two⟩
/-- for laws that hold some of the classes alone -/
structure ErrI (K : PySem.W.Frag) (mg : Str → Option Value) (I : List Nat) : Prop where
  gl : ∀ i, i ∈ I → mg (errN i) = some (.ref (eC K i))
  kp : ∀ i, i ∈ I → PySem.W.keepIn K (.ref (eC K i)) = true
  ty : ∀ i, i ∈ I → PySem.W.typeIn K (.ref (eC K i)) = some (.type "type")
  xc : ∀ i, i ∈ I → ExcC K (eC K i)
  exm : ∀ i j, i ∈ I → j ∈ I → PySem.W.exmOne K (.ref (eC K i)) (.ref (eC K j)) = some (i == j || j == 17)
  tx : ∀ i, i ∈ I → 7 ≤ i → PySem.W.excIn K (eC K i) He.veBase "ValueError.__new__" = true
def errIB (I : List Nat) (K : PySem.W.Frag) : Bool := I.all (errB K) && I.all fun i => I.all fun j => decide (PySem.W.exmOne K (.ref (eC K i)) (.ref (eC K j)) = some (i == j || j == 17))
theorem errI_ok {K : PySem.W.Frag} {h : Heap} {mg : Str → Option Value} {I : List Nat} (X : K.In h) (G : h.Ns mainGlobals mg) (c : errIB I K = true) : ErrI K mg I := by
  obtain ⟨c1, c2⟩ := Bool.and_eq_true_iff.mp c
  have all : ∀ i, i ∈ I → PySem.W.nsIn K mainGlobals (errN i) = some (some (.ref (eC K i))) ∧ PySem.W.keepIn K (.ref (eC K i)) = true ∧ PySem.W.typeIn K (.ref (eC K i)) = some (.type "type") ∧ excCB K (eC K i) = true ∧
      PySem.W.kitOne K (.ref (eC K i)) (.type "ValueError") = some true ∧ PySem.W.exmOne K (.ref (eC K i)) (.ref (eC K 17)) = some true ∧ PySem.W.kitOne K (.ref (eC K i)) (.ref (eC K 17)) = some true ∧
      (i < 7 ∨ PySem.W.excIn K (eC K i) He.veBase "ValueError.__new__" = true) := fun i hi => by
    have := List.all_eq_true.mp c1 i hi
    simpa only [errB, Bool.and_eq_true, decide_eq_true_eq, and_assoc] using this
  exact ⟨fun i hi => PySem.W.mg_of X G (all i hi).1, fun i hi => (all i hi).2.1, fun i hi => (all i hi).2.2.1, fun i hi => excCB_ok (all i hi).2.2.2.1,
    fun i j hi hj => of_decide_eq_true (List.all_eq_true.mp (List.all_eq_true.mp c2 i hi) j hj), fun i hi h7 => (all i hi).2.2.2.2.2.2.2.resolve_left (by omega)⟩
theorem isV {K : PySem.W.Frag} {mg : Str → Option Value} (er : Errs K mg) {H : Hp} {a : Addr} {d : Option Addr} {i : Nat} (j : Nat) {Q : VK} (ha : H a = some (EV (.ref (eC K i)) d a)) (hd : ∀ dd, d = some dd → ∃ fs, H dd = some (.xd fs))
    (hi : i < 18) (hj : j < 17) (q : Q (.bl (i == j)) H) : rIsV K [.ref a, .ref (eC K j)] H Q :=
  ⟨a, _, d, _, _, _, rfl, ha, hd, er.xc i hi, fun u r => r, er.kit i j hi hj, q⟩
theorem isVE {K : PySem.W.Frag} {mg : Str → Option Value} (er : Errs K mg) {H : Hp} {a : Addr} {d : Option Addr} {i : Nat} {Q : VK} (ha : H a = some (EV (.ref (eC K i)) d a)) (hd : ∀ dd, d = some dd → ∃ fs, H dd = some (.xd fs))
    (hi : i < 18) (q : Q (.bl true) H) : rIsV K [.ref a, .ty "ValueError"] H Q :=
  ⟨a, _, d, _, _, _, rfl, ha, hd, er.xc i hi, fun u r => r, er.kitV i hi, q⟩
/-! ### data with empty dicts -/
def flat : PyData → Bool
  | .list _ => false
  | .tuple _ => false
  | .dict _ => false
  | _ => true
mutual
inductive Df (K : PySem.W.Frag) (H : Hp) : V → PyData → Prop where
  | dp {v : V} {d : PyData} : flat d = true → Dp K H v d → Df K H v d
  | lst {a : Addr} {xs : List V} {ds : List PyData} : H a = some (.lst xs) → DfAll K H xs ds → Df K H (.ref a) (.list ds)
  | tup {a : Addr} {xs : List V} {ds : List PyData} : H a = some (.tup xs) → DfAll K H xs ds → Df K H (.ref a) (.tuple ds)
  | dct {a : Addr} : H a = some (.dK []) → Df K H (.ref a) (.dict [])
inductive DfAll (K : PySem.W.Frag) (H : Hp) : List V → List PyData → Prop where
  | nil : DfAll K H [] []
  | cons {v : V} {vs : List V} {d : PyData} {ds : List PyData} : Df K H v d → DfAll K H vs ds → DfAll K H (v :: vs) (d :: ds)
end

section
variable {K : PySem.W.Frag} {H H' : Hp}
theorem df_ex (e : Ex H H') : ∀ (d : PyData) (v : V), Df K H v d → Df K H' v d
  | .list ds, _, h => by
    cases h with
    | dp f h => cases f
    | lst h a => exact .lst (e _ _ h) (go ds _ a)
  | .tuple ds, _, h => by
    cases h with
    | dp f h => cases f
    | tup h a => exact .tup (e _ _ h) (go ds _ a)
  | .dict kvs, _, h => by
    cases h with
    | dp f h => cases f
    | dct h => exact .dct (e _ _ h)
  | .none, _, h => by cases h with | dp f h => exact .dp f (dp_ex e _ _ h)
  | .bool _, _, h => by cases h with | dp f h => exact .dp f (dp_ex e _ _ h)
  | .int _, _, h => by cases h with | dp f h => exact .dp f (dp_ex e _ _ h)
  | .str _, _, h => by cases h with | dp f h => exact .dp f (dp_ex e _ _ h)
where go : ∀ (ds : List PyData) (vs : List V), DfAll K H vs ds → DfAll K H' vs ds
  | [], _, h => by cases h; exact .nil
  | d :: ds, _, h => by cases h with | cons h r => exact .cons (df_ex e d _ h) (go ds _ r)
end
section
variable {X : Cx} {pins : List (Addr × Obj)} {σ : L2.St} {H : Hp} {s : Shared}
theorem tr_ne {a : Addr} {o : HO} (I : Inv X pins σ H s) (sy : (X.K.lookup sysModules).isSome = true) (e : H a = some o) : sysModules ≠ a := fun z => by
  obtain ⟨o', ho⟩ := Option.isSome_iff_exists.mp sy
  have := (I.bs _ _ (I.ok.mod.kin _ _ ho)).2
  rw [z, e] at this
  cases this
theorem df_reads (I : Inv X pins σ H s) (sy : (X.K.lookup sysModules).isSome = true) : ∀ (d : PyData) (v : V) (u : Value), Df X.K H v d → RelV v u → ∃ as, Reads s.heap u d as ∧ sysModules ∉ as
  | .list ds, _, _, h, r => by
    cases h with
    | dp f h => cases f
    | lst h a =>
      cases r
      obtain ⟨_, its, n, rv, h1⟩ := (show ObjOk X.prog X.w H s.heap _ (.lst _) from I.hok _ _ h)
      obtain ⟨as, ra, na⟩ := go ds _ its a rv
      exact ⟨_, Reads.list h1 rfl rfl (by simpa using ra), fun z => (List.mem_cons.mp z).elim (tr_ne I sy h) na⟩
  | .tuple ds, _, _, h, r => by
    cases h with
    | dp f h => cases f
    | tup h a =>
      cases r
      obtain ⟨_, its, rv, o, h1, h2, n, h3⟩ := (show ObjOk X.prog X.w H s.heap _ (.tup _) from I.hok _ _ h)
      obtain ⟨as, ra, na⟩ := go ds _ its a rv
      exact ⟨_, Reads.tuple h1 h2 h3 (by simpa using ra), na⟩
  | .dict kvs, _, _, h, r => by
    cases h with
    | dp f h => cases f
    | dct h =>
      cases r
      obtain ⟨_, _, vs, kv, o, es, ep, h1, h2, h3, _, pr, _⟩ := (show ObjOk X.prog X.w H s.heap _ (.dK []) from I.hok _ _ h)
      cases kv
      have e0 : es.toList = [] := by
        cases hh : es.toList with
        | nil => rfl
        | cons x y => rw [hh] at pr; cases pr
      exact ⟨_, Reads.dict (as := []) (bs := []) h1 h2.1 h3 (by rw [e0]; exact .nil) (by rw [e0]; exact .nil), fun z => (List.mem_cons.mp z).elim (tr_ne I sy h) (fun z => nomatch z)⟩
  | .none, _, _, h, r => by cases h with | dp f h => cases h; cases r; exact ⟨_, Reads.none, fun z => nomatch z⟩
  | .bool b, _, _, h, r => by cases h with | dp f h => cases h; cases r; exact ⟨_, Reads.bool b, fun z => nomatch z⟩
  | .int i, _, _, h, r => by cases h with | dp f h => cases h; obtain ⟨t, rfl⟩ := r; exact ⟨_, Reads.int i t, fun z => nomatch z⟩
  | .str x, _, _, h, r => by cases h with | dp f h => cases h; obtain ⟨t, rfl⟩ := r; exact ⟨_, Reads.str x t, fun z => nomatch z⟩
where go : ∀ (ds : List PyData) (vs : List V) (us : List Value), DfAll X.K H vs ds → Vals vs us → ∃ as, ReadsAll s.heap us ds as ∧ sysModules ∉ as
  | [], _, _, h, r => by cases h; cases r; exact ⟨_, .nil, fun z => nomatch z⟩
  | d :: ds, _, _, h, r => by
    cases h with
    | cons h1 h2 =>
    cases r with
    | cons r1 r2 =>
    obtain ⟨as, q1, n1⟩ := df_reads I sy d _ _ h1 r1
    obtain ⟨bs, q2, n2⟩ := go ds _ _ h2 r2
    exact ⟨_, .cons q1 q2, fun z => (List.mem_append.mp z).elim n1 n2⟩
end
/-- a text of at most m signs, at most k deep -/
def Good (k m : Nat) (d : PyData) : Prop := d.showable = true ∧ d.depth ≤ k ∧ d.shown.length ≤ m
theorem good_fine {n : Nat} {d : PyData} (h : fine n d = true) : Good n (sz d) d := by
  obtain ⟨h1, _, h3, h4⟩ := fine_ok d n h
  exact ⟨h1, h3, h4⟩
theorem good_dict {k : Nat} : Good (k + 1) 2 (.dict []) := ⟨by decide +kernel, Nat.le_trans (by decide +kernel : (PyData.dict []).depth ≤ 1) (by omega), by decide +kernel⟩
/-- repr of a new list -/
def rReprF (K : PySem.W.Frag) : List V → Hp → VK → Prop := fun xs H Q => ∃ a ds, xs = [.ref a] ∧ Df K H (.ref a) (.list ds) ∧ Good 20 16000000 (.list ds) ∧ Q (.str (PyData.shown (.list ds))) H
theorem call_repr_F {X : Cx} {k : Nat} (hr : Room k X.A) (hc : Clean X.A) (sy : (X.K.lookup sysModules).isSome = true) : CallR X (.builtin "repr") (rReprF X.K) := by
  intro pins s σ H xs us Q I r h
  obtain ⟨a, ds, rfl, hd, ⟨g1, g2, g3⟩, q⟩ := h
  cases r with
  | cons r0 r1 =>
  cases r1
  obtain ⟨as, rd, na⟩ := df_reads I sy _ _ _ hd r0
  cases r0
  have hu := hr.units
  exact repr_of_reads' rd g1 (fun _ => na) hc (by omega) (fun _ _ z => z) (fun h' u tk kk => ⟨.str _, H, I.kept kk, ⟨_, rfl⟩, q⟩) (by rw [sizeLine_eq]; omega)
theorem good_list {k m : Nat} {ds : List PyData} (h : ∀ d ∈ ds, Good k m d) : Good (k + 1) ((m + 2) * ds.length + 3) (.list ds) := by
  have one : ∀ ds : List PyData, (∀ d ∈ ds, Good k m d) → PyData.showableAll ds = true ∧ PyData.depthAll ds ≤ k ∧ ((PyData.shownAll ds).map (·.length)).sum + 2 * (PyData.shownAll ds).length ≤ (m + 2) * ds.length := by
    intro ds
    induction ds with
    | nil => intro _; exact ⟨rfl, by show 0 ≤ k; omega, by simp [PyData.shownAll]⟩
    | cons d ds ih =>
      intro h
      obtain ⟨a1, a2, a3⟩ := h d (List.mem_cons_self ..)
      obtain ⟨b1, b2, b3⟩ := ih fun d hd => h d (List.mem_cons_of_mem _ hd)
      refine ⟨by simp only [PyData.showableAll, a1, b1, Bool.and_self], by simp only [PyData.depthAll]; omega, ?_⟩
      simp only [PyData.shownAll, List.map_cons, List.sum_cons, List.length_cons]
      rw [show (m + 2) * (ds.length + 1) = (m + 2) * ds.length + (m + 2) by rw [Nat.mul_add, Nat.mul_one]]
      omega
  obtain ⟨c1, c2, c3⟩ := one ds h
  refine ⟨by simpa only [PyData.showable] using c1, by simp only [PyData.depth]; omega, ?_⟩
  have := listText_len_le (PyData.shownAll ds)
  simp only [PyData.shown]
  omega
/-! ### classes of errors with an argument -/
def oexB (K : PySem.W.Frag) (C : Addr) : Bool := match K.lookup C with
  | some ⟨.type "type", _, .cls cd, sl⟩ => (match cd.mro, sl.toList with
    | .ref C' :: bm, [_, _, _, _, some (.builtin n), _] => C' == C && n == "ValueError.__new__" && !cd.hasDel && cd.hasDict && PySem.HandSPX.refsVE bm
    | _, _ => false)
  | _ => false
theorem oexB_ok {K : PySem.W.Frag} {C : Addr} (q : oexB K C = true) : ∃ nm q N bs bm sn sub ab col dd k0 k1 k2 k3 k5, K.lookup C = some (excClassObj nm q C N bs bm true sn sub ab col dd k0 k1 k2 k3 k5 "ValueError.__new__") ∧ PySem.HandSPX.refsVE bm = true := by
  unfold oexB at q
  split at q
  · rename_i dd cd sl ho
    split at q
    · rename_i C' bm k0 k1 k2 k3 n k5 hm hs
      simp only [Bool.and_eq_true, beq_iff_eq, Bool.not_eq_true'] at q
      obtain ⟨⟨⟨⟨rfl, rfl⟩, hdel⟩, hdc⟩, hr⟩ := q
      obtain ⟨nm, bs, mro, ns, qn, hd, sn, sub, ab, col, del⟩ := cd
      dsimp only at hm hdel hdc
      subst hm hdel hdc
      have hsl : sl = #[k0, k1, k2, k3, some (.builtin "ValueError.__new__"), k5] := by
        obtain ⟨l⟩ := sl
        simp only at hs
        rw [hs]
      subst hsl
      exact ⟨nm, qn, ns, bs, bm, sn, sub, ab, col, dd, k0, k1, k2, k3, k5, ho, hr⟩
    · cases q
  · cases q
/-- of a class whose __init__, at fI, keeps its argument in the field f -/
structure InitF (K : PySem.W.Frag) (C fI : Addr) (f : Str) : Prop where
  ox : OexC K C
  no : PySem.W.findIn K (.ref C) f = some none
  ini : PySem.W.findIn K (.ref C) "__init__" = some (some (.ref fI))
  ty : PySem.W.typeIn K (.ref fI) = some (.type "function")
def initB (K : PySem.W.Frag) (i : Nat) (f : Str) : Bool :=
  oexB K (eC K i) && decide (PySem.W.findIn K (.ref (eC K i)) "__setattr__" = some (some (.builtin "object.__setattr__"))) && decide (PySem.W.subIn K (.ref (eC K i)) (.type "BaseException") = some true) &&
  decide (PySem.W.typeIn K (.ref (eC K i)) = some (.type "type")) && PySem.W.keepIn K (.ref (eC K i)) && decide (PySem.W.findIn K (.ref (eC K i)) f = some none) &&
  decide (PySem.W.findIn K (.ref (eC K i)) "__init__" = some (some (.ref (He.ma K (eC K i) "__init__")))) && decide (PySem.W.typeIn K (.ref (He.ma K (eC K i) "__init__")) = some (.type "function"))
theorem initB_ok {K : PySem.W.Frag} {i : Nat} {f : Str} (h : initB K i f = true) : InitF K (eC K i) (He.ma K (eC K i) "__init__") f := by
  simp only [initB, Bool.and_eq_true, decide_eq_true_eq, and_assoc] at h
  obtain ⟨h1, h2, h3, h4, h5, h6, h7, h8⟩ := h
  exact ⟨⟨oexB_ok h1, h2, h3, h4, h5⟩, h6, h7, h8⟩
/-- what such an __init__ promises -/
def spIn (K : PySem.W.Frag) (f : Str) : Sp := fun vs H Q _ => ∃ (a C : Addr) (v : V), vs = [.ref a, v] ∧ OexC K C ∧ PySem.W.findIn K (.ref C) f = some none ∧ H a = some (exo a C none) ∧
  ∀ dx, H dx = none → dx ≠ a → Q .non (upd (upd H dx (exd dx [(f, v)])) a (exo a C (some dx)))
theorem spIn_len {K : PySem.W.Frag} {f : Str} {n : List Str} (hn : n.length = 2) : ∀ vs H Q E, spIn K f vs H Q E → vs.length = n.length := by
  rintro vs H Q E ⟨a, C, v, rfl, _⟩
  exact hn.symm
/-- C(e), the field f holding e -/
def tMkI (C : Addr) (f : Str) (ta : TA) : L2.St → Hp → XK → Prop := fun σ H Q => ta σ H fun vs H1 => ∃ v, vs = [v] ∧ ∀ d, H1 d = none → Q (.ref C) (some d) (upd H1 d (.xd [(f, v)]))
section
variable {X : Cx} {C fI : Addr} {f x : Str} {k : Nat} {fd : FuncData} {n : List Str} {e : Expr} {ta : TA} {p pos : Pos}
theorem pmk_init {ps : List Str} (T : InitF X.K C fI f) (F1 : FnOk X.prog X.w X.K X.mg X.base (L2.CX X.prog X.w) k fI fd ps (spIn X.K f)) (hr : Room (k + 1) X.A) (hb : Binds X.K fd ps []) (hg : Gl X x) (hm : X.mg x = some (.ref C)) (ha : PA X [e] ta)
    (hdb : (x == ("__debug__" : Str)) = false := by decide) (he : starEach [e] X.env = (false, eval e X.env) :: starEach [] X.env := by rfl) :
    PMk X (.Call (.Name x p) [e] [] pos) (tMkI C f ta) := by
  intro pins s σ H Q I h
  have ha2 : PA X [e] (fun σ H R => ∃ R', ta σ H R' ∧ ∀ vs H1, R' vs H1 → R vs H1) := by
    constructor
    rintro pos pins s σ H R I ⟨R', h, i⟩
    refine wpAny_mono (ha.run pos pins s σ H R' I h) ?_ (fun _ _ x => x)
    rintro us s1 ⟨vs, H1, I1, r, q⟩
    exact ⟨vs, H1, I1, r, i _ _ q⟩
  have gen := pmk_oex (p := p) (pos := pos) (CX := L2.CX X.prog X.w) T.ox T.ini T.ty F1 hr hb .nil (passL (X := X)) hg hm ha2 hdb he (by rfl)
  refine gen pins s σ H Q I ⟨_, h, ?_⟩
  rintro vs H1 ⟨v, rfl, q⟩
  refine ⟨by show 1 ≤ 1000; decide, fun a na => ⟨a, C, v, rfl, T.ox, T.no, upd_same, fun dx hdx hne => ⟨rfl, dx, [(f, v)], upd_same, by rw [upd_ne hne, upd_same], ?_, ?_⟩⟩⟩
  · rw [upd_ne hne] at hdx
    exact hdx
  · rw [upd_ne hne] at hdx
    have e2 : upd (del (upd (upd (upd H1 a (exo a C none)) dx (exd dx [(f, v)])) a (exo a C (some dx))) a) dx (HO.xd [(f, v)]) = upd H1 dx (.xd [(f, v)]) := by
      funext b
      by_cases h1 : b = dx
      · rw [h1, upd_same, upd_same]
      · rw [upd_ne h1, upd_ne h1]
        by_cases h2 : b = a
        · rw [h2, del_same, na]
        · rw [del_ne h2, upd_ne h2, upd_ne h1, upd_ne h2]
    rw [e2]
    exact q dx hdx
/-- an error that is made and kept -/
def tMkV (tm : L2.St → Hp → XK → Prop) : TE := fun σ H Q => tm σ H fun cls d H1 => ∀ a, H1 a = none → Q (.ref a) (upd H1 a (EV cls d a))
theorem pe_mkV {e : Expr} {tm : L2.St → Hp → XK → Prop} (he : PMk X e tm) : PE X e (tMkV tm) := by
  constructor
  intro pins s σ H Q I h
  refine thn (he pins s σ H _ I h) ?_
  rintro u s1 ⟨a, oe, vs, sI, H1, cls, d, rfl, J, k, hne, ha, hz, hd, _, na, os, ag, _, q⟩
  refine ⟨.ref a, upd H1 a (EV cls d a), ?_, rfl, q a na⟩
  obtain ⟨hp, g, dr, tk, os'⟩ := s1
  obtain ⟨hp0, g0, dr0, tk0, os0⟩ := sI
  exact J.call' (ch := []) os (Un.laidN k hne na) (J.hok.laidN k na (ev_ok ha hz hd)) ag (fun b z => absurd z (by simp))
end

/-- list + list, each tracked or written -/
def rCatQ (K : PySem.W.Frag) : R2 := fun x y H Q => ∃ l b xs zs, x = .ref l ∧ y = .ref b ∧ SqL K H l xs ∧ SqL K H b zs ∧ xs.length + zs.length ≤ sizeLine ∧ ∀ p, H p = none → Q (.ref p) (upd H p (.lst (xs ++ zs)))
theorem op_catQ {X : Cx} : OpR X (binaryOp .Add) (rCatQ X.K) := by
  intro pins s σ H x y v u Q I rx ry h
  obtain ⟨l, b, xs, zs, rfl, rfl, hH, hB, hz, q⟩ := h
  cases rx
  cases ry
  obtain ⟨its, r, ⟨⟨cls, dd, data, sl⟩, n, ho, hc, _, hd⟩, z⟩ := I.list hH
  obtain ⟨its2, r2, ⟨⟨cls2, dd2, data2, sl2⟩, n2, ho2, hc2, _, hd2⟩, z2⟩ := I.list hB
  simp only at hc hd hc2 hd2
  subst hc hd hc2 hd2
  have l1 := r.length
  have l2 := r2.length
  have ea : its.toArray ++ its2.toArray = (its ++ its2).toArray := by simp
  refine concat_meets ⟨_, ho, rfl⟩ ⟨_, ho2, rfl⟩ noFill_list_add seq_list_add PySem.F.slot_list_add PySem.F.entry_list_add (PySem.F.args_list_add_2 _ _) (list_addW l b its.toArray its2.toArray n n2 dd dd2 sl sl2 (by rw [List.size_toArray, List.size_toArray]; omega)) ⟨ho, ho2, ?_⟩
  rw [ea]
  exact ⟨.ref _, _, I.lnew (t' := s.toks) (r.append r2) (by rw [List.length_append]; omega), rfl, q _ I.fresh⟩
theorem isVS {K : PySem.W.Frag} {mg : Str → Option Value} (er : Errs K mg) {H : Hp} {a : Addr} {d : Option Addr} {i : Nat} {Q : VK} (ha : H a = some (EV (.ref (eC K i)) d a)) (hd : ∀ dd, d = some dd → ∃ fs, H dd = some (.xd fs))
    (hi : i < 18) (q : Q (.bl true) H) : rIsV K [.ref a, .ref (eC K 17)] H Q :=
  ⟨a, _, d, _, _, _, rfl, ha, hd, er.xc i hi, fun u r => r, er.kitS i hi, q⟩
theorem xf_of {K : PySem.W.Frag} {C : Addr} (h : ExcC K C) : XfC K C := ⟨h.hg, h.hk, h.hs, h.hd⟩

/-! loops over enumerate, zip -/
section
variable {K : PySem.W.Frag} {σ : L2.St} {H : Hp} {ta : TA} {tb : TS} {g : TG} {D : Ends} {a b : Addr} {xs ys : List V}
def ForJ (J : It) (g : TG) (tb : TS) (D : Ends) (σ : L2.St) (H1 : Hp) : Prop := ∃ W : Nat → Nat → L2.St → Hp → Prop, (∃ m, W 0 m σ H1) ∧ ∀ i m σ H, W i m σ H →
  (J.stop i H ∧ D.nx σ H) ∨ (J.go i H ∧ ∃ N : L2.St → Hp → Prop, (∀ σ' H', N σ' H' → ∃ m', m' < m ∧ W (i + 1) m' σ' H') ∧ ∀ x H', J.yld i H x H' → g x σ H' fun σ2 H2 => tb { D with nx := N, ct := N, bk := D.nx } σ2 H2)
theorem tFor_enum : tFor (iEnum K ta) g tb D σ H = ta σ H fun us H1 => ∃ a xs, us = [.ref a] ∧ SqL K H1 a xs ∧ ForJ (Ite K a) g tb D σ H1 := rfl
theorem forE_in (Pv : Nat → L2.St → Hp → Prop) (h0 : Pv 0 σ H) (hl : ∀ i σ' H', i ≤ xs.length → Pv i σ' H' → SqL K H' a xs) (hd : ∀ σ H, Pv xs.length σ H → D.nx σ H)
    (hs : ∀ (i : Nat) x T σ H, xs[i]? = some x → Pv i σ H → H T = none → g (.ref T) σ (upd H T (.tup [.int (i : Nat), x])) fun σ2 H2 => tb { D with nx := Pv (i + 1), ct := Pv (i + 1), bk := D.nx } σ2 H2) : ForJ (Ite K a) g tb D σ H := by
  refine for_it walk_enum Pv h0 hl ?_ hd
  rintro i x σ H H' hi p ⟨T, x1, y1, rfl, hT, rfl, h1, h2⟩
  cases h1
  exact hs i y1 T σ H h2 p hT
end
end Bs

namespace Bs
open PySem PySem.Spec PyProof.Rows L2
open Evl (Ex)
/-! ### match over words -/
def PCase (X : Cx) (cs : List MatchCase) (t : Str → TS) : Prop := ∀ (first : Bool) (pins : List (Addr × Obj)) (s : Shared) (σ : L2.St) (H : Hp) (D : Ends) (z : Str) (v : Value), Inv X pins σ H s → RelV (.str z) v → t z D σ H →
  wpAny (model X.prog X.w) X.A (matchCases cs X.env v first) (SP X pins D) X.xe s
def tCase (w : Str) (a : TS) (b : Str → TS) : Str → TS := fun z D σ H => if z = w then a D σ H else b z D σ H
def tMatch (te : TE) (t : Str → TS) : TS := fun D σ H => te σ H fun x H1 => ∃ z, x = .str z ∧ t z D σ H1
section
variable {X : Cx} {body : List Stmt} {rest : List MatchCase} {tb : TS} {t : Str → TS} {w : Str} {j : Nat} {p pos : Pos} {e : Expr} {te : TE} {cs : List MatchCase}
theorem pc_nil : PCase X [] fun _ D σ H => D.nx σ H := by
  intro first pins s σ H D z v I r h
  exact wpAny_matchCases_nil ⟨σ, H, I, h⟩
theorem pc_any (hb : PSs X body tb) : PCase X [⟨.MatchAs none none pos, none, body⟩] fun _ => tb := by
  intro first pins s σ H D z v I r h
  refine wpAny_matchCases_cons (wpAny_matchPattern_Capture ?_)
  show wpAny _ _ (assignInOrder [] []) _ _ _
  exact wpAny_pure (hb.run pins s σ H D I h)
theorem pc_word (hb : PSs X body tb) (hr : PCase X rest t) : PCase X (⟨.MatchValue (.Constant (.str w) j p) pos, none, body⟩ :: rest) (tCase w tb t) := by
  intro first pins s σ H D z v I r h
  refine wpAny_matchCases_cons (wpAny_matchPattern_Value ?_)
  have one := (pe_str (X := X) (x := w) (j := j) (pos := p)).run pins s σ H (fun y H1 => y = .str w ∧ H1 = H) I ⟨rfl, rfl⟩
  refine wpAny_mono one ?_ (fun _ _ x => x)
  rintro u s1 ⟨y, H1, I1, r1, rfl, rfl⟩
  have two := op_eq pins s1 σ H1 (.str z) (.str w) v u (fun y H2 => y = .bl (decide (z = w)) ∧ H2 = H1) I1 r r1 ⟨rfl, by simp⟩
  refine wpAny_mono two ?_ (fun _ _ x => x)
  rintro c s2 ⟨y, H2, I2, r2, rfl, rfl⟩
  cases r2
  refine wpAny_truthy_bool ?_
  unfold tCase at h
  by_cases hz : z = w
  · rw [if_pos hz] at h
    rw [decide_eq_true hz]
    show wpAny _ _ (assignInOrder [] []) _ _ _
    exact wpAny_pure (hb.run pins s2 σ H2 D I2 h)
  · rw [if_neg hz] at h
    rw [decide_eq_false hz]
    exact hr false pins s2 σ H2 D z v I2 r h
theorem ps_match (he : PE X e te) (hc : PCase X cs t) : PS X (.Match e cs pos) (tMatch te t) := by
  constructor
  intro pins s σ H D I h
  apply wpAny_Match
  refine wpAny_mono (he.run pins s σ H _ I h) ?_ (fun _ _ x => x)
  rintro v s1 ⟨y, H1, I1, r, z, rfl, q⟩
  exact hc true pins s1 σ H1 D z v I1 r q
end
/-! ### defs of properties -/
def gA (K : PySem.W.Frag) (c f : Str) : Addr := match PySem.W.recIn K (He.ma K (He.ga K c) f) "property" with
  | some (.ref g :: _) => g
  | _ => 0
def fnA (K : PySem.W.Frag) (a : Addr) : He.FnW := match K.lookup a with
  | some ⟨_, _, .func fd, _⟩ => some (fd.name, fd.qualname, fd.params, fd.body, fd.scope, fd.globals, fd.closure, fd.builtins)
  | _ => none
def okA (K : PySem.W.Frag) (a : Addr) (q : Str) : Bool := PySem.W.keepIn K (.ref a) && (match K.lookup a with
  | some ⟨_, _, .func fd, _⟩ => PySem.W.codeIn K fd.code q && (He.dflB K fd.defaults [] && He.kwdB K fd.kwdefaults [])
  | _ => false)
theorem fun_at {K : PySem.W.Frag} {d : He.DefD} {a : Addr} (e : fnA K a = d.val) (c : okA K a d.qual = true) : ∃ fd, FunD K d.name d.qual d.params d.body d.scope [] [] a fd := by
  obtain ⟨kp, c2⟩ := Bool.and_eq_true_iff.mp c
  unfold fnA at e
  generalize hl : K.lookup a = lo at c2 e
  cases lo with
  | none => cases c2
  | some o =>
    obtain ⟨oc, od, dt, osl⟩ := o
    cases dt
    case func fd =>
      obtain ⟨n1, n2, n3, n4, n5, n6, n7, n8, n9, n10, n11, n12, n13, n14, n15⟩ := fd
      have e2 : (some (n1, n2, n3, n4, n5, n6, n7, n15) : He.FnW) = some (d.name, d.qual, d.params, .stmts d.body, d.scope, mainGlobals, [], builtinsNs) := e
      simp only [Option.some.injEq, Prod.mk.injEq] at e2
      obtain ⟨h1, h2, h3, h4, h5, h6, h7, h8⟩ := e2
      subst h1 h2 h3 h4 h5 h6 h7 h8
      have c3 : (PySem.W.codeIn K n13 d.qual && (He.dflB K n8 [] && He.kwdB K n9 [])) = true := c2
      simp only [Bool.and_eq_true] at c3
      exact ⟨_, ⟨oc, od, n8, n9, n10, n11, n12, n13, n14, osl, rfl, hl, c3.1, He.dflB_ok c3.2.1, He.kwdB_ok c3.2.2⟩, kp⟩
    all_goals cases c2
/-- class, name, def -/
abbrev PropD : Type := Str × Str × He.DefD
def propB (K : PySem.W.Frag) (q : PropD) : Bool :=
  decide (PySem.W.findIn K (.ref (He.ga K q.1)) q.2.1 = some (some (.ref (He.ma K (He.ga K q.1) q.2.1)))) && decide (PySem.W.specialIn K (.ref (He.ma K (He.ga K q.1) q.2.1)) "__get__" = some (some (.builtin "property.__get__"))) &&
  decide (PySem.W.takesIn K (.ref (He.ma K (He.ga K q.1) q.2.1)) = some true) && (match PySem.W.recIn K (He.ma K (He.ga K q.1) q.2.1) "property" with
    | some (.ref _ :: _) => true
    | _ => false) && okA K (gA K q.1 q.2.1) q.2.2.qual
theorem propB_ok {K : PySem.W.Frag} {q : PropD} (h : propB K q = true) : PropOf K (He.ga K q.1) q.2.1 (He.ma K (He.ga K q.1) q.2.1) (gA K q.1 q.2.1) ∧ okA K (gA K q.1 q.2.1) q.2.2.qual = true := by
  simp only [propB, Bool.and_eq_true, decide_eq_true_eq, and_assoc] at h
  obtain ⟨h1, h2, h3, h4, h5⟩ := h
  refine ⟨⟨h1, h2, h3, ?_⟩, h5⟩
  unfold gA
  generalize PySem.W.recIn K (He.ma K (He.ga K q.1) q.2.1) "property" = r at *
  cases r with
  | none => cases h4
  | some l =>
    cases l with
    | nil => cases h4
    | cons v l =>
      cases v
      case ref g => exact ⟨l, rfl⟩
      all_goals cases h4
/-! ### the head's facts, with properties too -/
def obP (n : Nat) (cs : List (PySem.W.Frag → Bool)) (ps : List PropD) (fa : List He.Fa) (fn : List He.DefD) (g : Addr → Option Obj) : Bool × He.AlD × List He.FnW :=
  ((cs.all fun c => c (kX n g)) && ps.all (propB (kX n g)), He.obsD fa fn (kX n g), ps.map fun q => fnA (kX n g) (gA (kX n g) q.1 q.2.1))
def valP (ps : List PropD) (fn : List He.DefD) : Bool × He.AlD × List He.FnW := (true, He.valD fn, ps.map fun q => q.2.2.val)
structure SaysP (cs : List (PySem.W.Frag → Bool)) (ps : List PropD) (fa : List He.Fa) (fn : List He.DefD) (K : PySem.W.Frag) : Prop where
  cs : (cs.all fun c => c K) = true
  pb : ps.all (propB K) = true
  pv : (ps.map fun q => fnA K (gA K q.1 q.2.1)) = ps.map fun q => q.2.2.val
  d : He.SaysD fa fn K
def hookP (n : Nat) (cs : List (PySem.W.Frag → Bool)) (ps : List PropD) (fa : List He.Fa) (fn : List He.DefD) : PySem.W.Hook where
  α := Bool × He.AlD × List He.FnW
  obs := fun s => obP n cs ps fa fn s.heap.get?
  val := fun _ => valP ps fn
  says := fun _ h => ∃ K : PySem.W.Frag, K.In h ∧ SaysP cs ps fa fn K
  of := fun _ _ e => by
    have e1 := congrArg (fun z : Bool × He.AlD × List He.FnW => z.1) e
    obtain ⟨a, b⟩ := Bool.and_eq_true_iff.mp e1
    exact ⟨_, He.frG_in, a, b, congrArg (fun z : Bool × He.AlD × List He.FnW => z.2.2) e, congrArg (fun z : Bool × He.AlD × List He.FnW => z.2.1) e⟩
  keeps := fun _ _ _ h k => by
    obtain ⟨K, hK, c⟩ := h
    exact ⟨K, PySem.W.Frag.In.keeps hK k, c⟩
theorem obP_eq {n : Nat} {cs : List (PySem.W.Frag → Bool)} {ps : List PropD} {fa : List He.Fa} {fn : List He.DefD} {g : Addr → Option Obj} {s : Shared} (h : ∀ a, g a = s.heap.get? a) : obP n cs ps fa fn g = (hookP n cs ps fa fn).obs s := by
  have e : g = s.heap.get? := funext h
  rw [e] <;> rfl
theorem SaysP.prop {cs : List (PySem.W.Frag → Bool)} {ps : List PropD} {fa : List He.Fa} {fn : List He.DefD} {K : PySem.W.Frag} (c : SaysP cs ps fa fn K) (i : Nat) {q : PropD} (h : ps[i]? = some q := by rfl) :
    PropOf K (He.ga K q.1) q.2.1 (He.ma K (He.ga K q.1) q.2.1) (gA K q.1 q.2.1) ∧ ∃ fd, FunD K q.2.2.name q.2.2.qual q.2.2.params q.2.2.body q.2.2.scope [] [] (gA K q.1 q.2.1) fd := by
  obtain ⟨p, o⟩ := propB_ok (List.all_eq_true.mp c.pb q (List.mem_of_getElem? h))
  have e2 : (ps.map fun q => fnA K (gA K q.1 q.2.1))[i]? = (ps.map fun q => q.2.2.val)[i]? := by rw [c.pv]
  rw [List.getElem?_map, List.getElem?_map, h] at e2
  exact ⟨p, fun_at (Option.some.inj e2) o⟩
/-- a def that minds no repr is one where none is under way -/
theorem gok_fn {P : Program} {w : World} {K : PySem.W.Frag} {mg : Str → Option Value} {base : Heap} {C : CXT} {k : Nat} {f : Addr} {fd : FuncData} {ps : List Str} {sp : Sp} (F : FnOk P w K mg base C k f fd ps sp) : GOk P w K mg base C k f fd ps sp :=
  ⟨F.len, fun A fr s H args us vs Q E r _ e b v q => F.run A fr s H args us vs Q E r e b v q⟩
/-- e.f in an except suite, e a kept exception -/
theorem pe_fldS {X : Cx} {a : Addr} {pn : List (Addr × Obj)} {e : Expr} {te : TE} {pos : Pos} {n : Str} (he : PE (X.suite a pn) e te) (hb : attributeBase e n X.env (eval e X.env) = eval e X.env := by rfl) :
    PE (X.suite a pn) (.Attribute e n pos) (tFldV X.K n te) := pe_fldV he hb
end Bs

namespace Bs
open PySem PySem.Spec PyProof.Rows L2
open Evl (Ex)
/-! ### methods of one of several classes -/
def tMethD (D : Addr → Prop) (m : Str) (sp : Sp) (E : XK) (ta : TE) (t : TA) : TE := fun σ H Q => ta σ H fun x H1 => ∃ a C dx fs, x = .ref a ∧ H1 a = some (.ins C dx fs) ∧ D C ∧ fs.lookup m = none ∧ t σ H1 fun vs H2 => sp (x :: vs) H2 Q E
def tMethDS (D : Addr → Prop) (m : Str) (sp : Sp) (E : L2.St → XK) (ta : TE) (t : TA) : TE := fun σ H Q => ta σ H fun x H1 => ∃ a C dx fs, x = .ref a ∧ H1 a = some (.ins C dx fs) ∧ D C ∧ fs.lookup m = none ∧ t σ H1 fun vs H2 => sp (x :: vs) H2 Q (E σ)
def tPropD (D : Addr → Prop) (sp : Sp) (E : XK) (ta : TE) : TE := fun σ H Q => ta σ H fun x H1 => ∃ a C dx fs, x = .ref a ∧ H1 a = some (.ins C dx fs) ∧ D C ∧ sp [x] H1 Q E
section
variable {X : Cx} {D : Addr → Prop} {CX : CXT} {k : Nat} {f : Addr} {fd : FuncData} {ps : List Str} {sp : Sp} {E : XK} {ES : L2.St → XK} {m : Str} {o e : Expr} {es : List Expr} {ta : TE} {t : TA} {pos apos : Pos}
theorem pe_methD {pl : Sem Bool} (he : PE X o ta) (cm : ∀ C, D C → Cls X.K C ∧ Meth X.K C m f) (F : FnOk X.prog X.w X.K X.mg X.base CX k f fd ps sp) (hr : Room k X.A) (hb : Binds X.K fd ps []) (hx : Passes CX X E) (ha : PA X (e :: es) t)
    (hst : starEach (e :: es) X.env = (false, eval e X.env) :: starEach es X.env := by rfl) (hpl : (backTo pos (starEach es X.env)).any (·.1) = false := by rfl)
    (ht : eval (.Call (.Attribute o m apos) (e :: es) [] pos) X.env = (do
      let ov ← eval o X.env
      standAt apos.atName
      let (f, first) ← holding [ov] (getMethod ov m pl)
      callWith pos f first (backTo pos (starEach (e :: es) X.env)) (backToKw pos (keywordEach [] X.env))) := by rfl) :
    PE X (.Call (.Attribute o m apos) (e :: es) [] pos) (tMethD D m sp E ta t) := by
  refine ⟨fun pins s σ H Q I h => ?_⟩
  refine PySem.W.methodCall_KW (pl := pl) (thn (he.run pins s σ H _ I h) fun u s1 ⟨x, H1, I1, rx, a, C, dx, fs, ex, ea, hC, l, q⟩ => ?_) ht
  subst ex
  obtain rfl : u = Value.ref a := rx
  obtain ⟨c, hm⟩ := cm C hC
  refine getmeth_ok I1 ea c hm l ?_
  refine PySem.W.callWith_K (first := [.ref a]) (h₀ := X.base) I.ok.mod.kin hm.kp (thn (ha.run pos pins s1 σ H1 _ I1 q) fun us s2 ⟨vs, H2, I2, r, q2⟩ => ⟨I2.kIn, ?_⟩) hst hpl
  exact run_fn (dvs := []) (ds := []) (us := .ref a :: us) (vs := .ref a :: vs) F hr hb .nil hx I2 (.cons rfl r) (by rw [List.append_nil]; exact q2)
theorem pe_meth0D {pl : Sem Bool} (he : PE X o ta) (cm : ∀ C, D C → Cls X.K C ∧ Meth X.K C m f) (F : FnOk X.prog X.w X.K X.mg X.base CX k f fd ps sp) (hr : Room k X.A) (hb : Binds X.K fd ps []) (hx : Passes CX X E)
    (ht : eval (.Call (.Attribute o m apos) [] [] pos) X.env = (do
      let ov ← eval o X.env
      standAt apos.atName
      let (f, first) ← holding [ov] (getMethod ov m pl)
      callWith pos f first (backTo pos (starEach [] X.env)) (backToKw pos (keywordEach [] X.env))) := by rfl) :
    PE X (.Call (.Attribute o m apos) [] [] pos) (tMethD D m sp E ta tNil) := by
  refine ⟨fun pins s σ H Q I h => ?_⟩
  refine PySem.W.methodCall_KW (pl := pl) (thn (he.run pins s σ H _ I h) fun u s1 ⟨x, H1, I1, rx, a, C, dx, fs, ex, ea, hC, l, q⟩ => ?_) ht
  subst ex
  obtain rfl : u = Value.ref a := rx
  obtain ⟨c, hm⟩ := cm C hC
  refine getmeth_ok I1 ea c hm l ?_
  exact PySem.W.callWith_K0 (first := [.ref a]) I1.kIn hm.kp (run_fn (dvs := []) (ds := []) (us := [.ref a]) (vs := [.ref a]) F hr hb .nil hx I1 (.cons rfl .nil) q)
/-- the callee runs, what it raises wished for at the caller's slots -/
theorem run_fS {pins : List (Addr × Obj)} {σ : L2.St} {H : Hp} {s : Shared} {Q : VK} {us : List Value} {vs : List V}
    (F : FnOk X.prog X.w X.K X.mg X.base CX k f fd ps sp) (hr : Room k X.A) (hb : Binds X.K fd ps []) (hx : PassesAt CX X σ (ES σ))
    (I : Inv X pins σ H s) (r : Vals vs us) (h : sp vs H Q (ES σ)) : wpAny (model X.prog X.w) X.A (call (.ref f) us) (EP X pins σ Q) X.xe s := by
  have len : us.length = ps.length := r.length ▸ F.len _ _ _ _ h
  have b := hb s us I.kIn (by rw [List.append_nil]; exact len)
  rw [List.append_nil] at b
  refine wpAny_call (codeAny_mono (F.run X.A X.stack s H ⟨us, []⟩ us vs Q (ES σ) hr I.env0 b r h) ?_)
  rintro (er | fl) s' z
  · exact hx pins H s er s' I z
  · cases fl with
    | ret u => exact I.after z
    | _ => exact z.elim
theorem pe_methDS {pl : Sem Bool} (he : PE X o ta) (cm : ∀ C, D C → Cls X.K C ∧ Meth X.K C m f) (F : FnOk X.prog X.w X.K X.mg X.base CX k f fd ps sp) (hr : Room k X.A) (hb : Binds X.K fd ps []) (hx : ∀ σ, PassesAt CX X σ (ES σ)) (ha : PA X (e :: es) t)
    (hst : starEach (e :: es) X.env = (false, eval e X.env) :: starEach es X.env := by rfl) (hpl : (backTo pos (starEach es X.env)).any (·.1) = false := by rfl)
    (ht : eval (.Call (.Attribute o m apos) (e :: es) [] pos) X.env = (do
      let ov ← eval o X.env
      standAt apos.atName
      let (f, first) ← holding [ov] (getMethod ov m pl)
      callWith pos f first (backTo pos (starEach (e :: es) X.env)) (backToKw pos (keywordEach [] X.env))) := by rfl) :
    PE X (.Call (.Attribute o m apos) (e :: es) [] pos) (tMethDS D m sp ES ta t) := by
  refine ⟨fun pins s σ H Q I h => ?_⟩
  refine PySem.W.methodCall_KW (pl := pl) (thn (he.run pins s σ H _ I h) fun u s1 ⟨x, H1, I1, rx, a, C, dx, fs, ex, ea, hC, l, q⟩ => ?_) ht
  subst ex
  obtain rfl : u = Value.ref a := rx
  obtain ⟨c, hm⟩ := cm C hC
  refine getmeth_ok I1 ea c hm l ?_
  refine PySem.W.callWith_K (first := [.ref a]) (h₀ := X.base) I.ok.mod.kin hm.kp (thn (ha.run pos pins s1 σ H1 _ I1 q) fun us s2 ⟨vs, H2, I2, r, q2⟩ => ⟨I2.kIn, ?_⟩) hst hpl
  exact run_fS (us := .ref a :: us) (vs := .ref a :: vs) F hr hb (hx σ) I2 (.cons rfl r) q2
theorem pe_meth0DS {pl : Sem Bool} (he : PE X o ta) (cm : ∀ C, D C → Cls X.K C ∧ Meth X.K C m f) (F : FnOk X.prog X.w X.K X.mg X.base CX k f fd ps sp) (hr : Room k X.A) (hb : Binds X.K fd ps []) (hx : ∀ σ, PassesAt CX X σ (ES σ))
    (ht : eval (.Call (.Attribute o m apos) [] [] pos) X.env = (do
      let ov ← eval o X.env
      standAt apos.atName
      let (f, first) ← holding [ov] (getMethod ov m pl)
      callWith pos f first (backTo pos (starEach [] X.env)) (backToKw pos (keywordEach [] X.env))) := by rfl) :
    PE X (.Call (.Attribute o m apos) [] [] pos) (tMethDS D m sp ES ta tNil) := by
  refine ⟨fun pins s σ H Q I h => ?_⟩
  refine PySem.W.methodCall_KW (pl := pl) (thn (he.run pins s σ H _ I h) fun u s1 ⟨x, H1, I1, rx, a, C, dx, fs, ex, ea, hC, l, q⟩ => ?_) ht
  subst ex
  obtain rfl : u = Value.ref a := rx
  obtain ⟨c, hm⟩ := cm C hC
  refine getmeth_ok I1 ea c hm l ?_
  exact PySem.W.callWith_K0 (first := [.ref a]) I1.kIn hm.kp (run_fS (us := [.ref a]) (vs := [.ref a]) F hr hb (hx σ) I1 (.cons rfl .nil) q)
theorem pe_propD {g : Addr} (he : PE X e ta) (cm : ∀ C, D C → Cls X.K C ∧ ∃ p, PropOf X.K C m p g) (F : FnOk X.prog X.w X.K X.mg X.base CX k g fd ps sp) (hr : Room (k + 1) X.A) (hb : Binds X.K fd ps []) (hx : Passes CX X.nox E)
    (hab : attributeBase e m X.env (eval e X.env) = eval e X.env) : PE X (.Attribute e m pos) (tPropD D sp E ta) := by
  refine ⟨fun pins s σ H Q I h => ?_⟩
  refine attr_of hab (thn (he.run pins s σ H _ I h) fun u s1 ⟨x, H1, I1, rx, a, C, dx, fs, ex, ea, hC, q⟩ => ?_)
  subst ex
  obtain rfl : u = Value.ref a := rx
  obtain ⟨c, p, hp⟩ := cm C hC
  exact getprop_ok I1 ea c hp F hr hb .nil hx q
end
/-! ### == by an own __eq__ -/
def rEqI (K : PySem.W.Frag) (D : Addr → Prop) (sp : Sp) (E : XK) : R2 := fun x y H Q => ∃ a C dx fs tb, x = .ref a ∧ H a = some (.ins C dx fs) ∧ D C ∧ TyX K H y tb ∧ PySem.W.notFirst K C tb = true ∧ sp [.ref a, y] H (fun v H' => ∃ b, v = .bl b ∧ Q (.bl b) H') E
theorem op_eqI {X : Cx} {D : Addr → Prop} {CX : CXT} {n : Nat} {f : Addr} {fd : FuncData} {ps : List Str} {sp : Sp} {E : XK} (F : FnOk X.prog X.w X.K X.mg X.base CX n f fd ps sp) (hr : Room n X.A) (hm : ∀ C, D C → Meth X.K C "__eq__" f) (hb : Binds X.K fd ps []) (hx : Passes CX X E) :
    OpR X (compareOp .Eq) (rEqI X.K D sp E) := by
  intro pins s σ H x y v u Q I rx ry h
  obtain ⟨a, C, dx, fs, tb, rfl, ha, hC, ty, hn, hq⟩ := h
  cases rx
  obtain ⟨P, Z, hP, _⟩ := kit_of I ry ty
  obtain ⟨mA, J, _⟩ := ins_get I.hok ha
  obtain ⟨od, J, _⟩ := J.look
  obtain ⟨m, hF⟩ := I.fr
  have M := hm C hC
  show wpAny (model X.prog X.w) X.A (richCompare .Eq _ u) (EP X pins σ Q) X.xe s
  refine PySem.W.cmp_K (op := .Eq) (tb := tb) hr.units0 hF I.ok.mod.kin J (Z.ty _ _ I.kIn hP) hn M.at_ M.fn ?_
  have r2 : Vals [V.ref a, y] [Value.ref a, u] := .cons rfl (.cons ry .nil)
  have hl := F.len _ _ _ _ hq
  refine wpAny_call (codeAny_mono (F.run X.A X.stack s H ⟨[.ref a, u], []⟩ [.ref a, u] [.ref a, y] _ E hr I.env0 (by
    have := hb s [.ref a, u] I.kIn (by simpa using hl)
    simpa using this) r2 hq) fun r s' z => ?_)
  cases r with
  | error e => exact hx pins σ H s e s' I z
  | ok fl =>
    cases fl with
    | ret w =>
      obtain ⟨z, H', I', rz, b, ez, q⟩ := I.after z
      subst ez
      cases rz
      exact ⟨.bl b, H', I', rfl, q⟩
    | next => exact False.elim z
    | brk => exact False.elim z
    | cont => exact False.elim z
end Bs

namespace Bs
open PySem PySem.Spec PyProof.Rows L2
open Evl (Ex)
def topS (i : Nat) : Stmt := PySem.Challenge.pw_backslots_k06_times_of_steps.main.body.getD i (.Pass ⟨0, 0, 0, 0⟩)
abbrev s_is_int : Stmt := topS 1
abbrev s_is_whole : Stmt := topS 2
abbrev s_TooLarge___init__ : Stmt := inClass (topS 5) 0
abbrev s_require_length : Stmt := topS 12
abbrev s_require_slots : Stmt := topS 13
abbrev s_require_task : Stmt := topS 14
abbrev s_reach_of : Stmt := topS 15
abbrev s_rounds_of : Stmt := topS 16
abbrev s_steps_with : Stmt := topS 18
abbrev s_least_of : Stmt := topS 19
abbrev s_least_steps : Stmt := topS 20
abbrev s_step_times : Stmt := topS 21
abbrev s_L_wound : Stmt := topS 23
abbrev s_L_spin : Stmt := topS 24
abbrev s_L_choose : Stmt := topS 25
abbrev s_L_rounds : Stmt := topS 26
abbrev s_L_great : Stmt := topS 27
abbrev s_L_table : Stmt := topS 28
abbrev s_L_times : Stmt := topS 29
abbrev s_L_small_right : Stmt := topS 30
abbrev s_L_is_refused : Stmt := topS 31
abbrev s_L_great_right : Stmt := topS 32
abbrev s_law : Stmt := topS 33
structure Txt (P : Program) (w : World) (K : PySem.W.Frag) (mg : Str → Option Value) (base : Heap) where
  a_is_int : Addr
  fd_is_int : FuncData
  F_is_int : FnP K "is_int" "is_int" s_is_int a_is_int fd_is_int
  b_is_int : Binds K fd_is_int ["value"] []
  g_is_int : mg "is_int" = some (.ref a_is_int)
  a_is_whole : Addr
  fd_is_whole : FuncData
  F_is_whole : FnP K "is_whole" "is_whole" s_is_whole a_is_whole fd_is_whole
  b_is_whole : Binds K fd_is_whole ["value", "low", "high"] []
  g_is_whole : mg "is_whole" = some (.ref a_is_whole)
  a_TooLarge___init__ : Addr
  fd_TooLarge___init__ : FuncData
  F_TooLarge___init__ : FnP K "__init__" "TooLarge.__init__" s_TooLarge___init__ a_TooLarge___init__ fd_TooLarge___init__
  b_TooLarge___init__ : Binds K fd_TooLarge___init__ ["self", "limit"] []
  a_require_length : Addr
  fd_require_length : FuncData
  F_require_length : FnP K "require_length" "require_length" s_require_length a_require_length fd_require_length
  b_require_length : Binds K fd_require_length ["value"] []
  g_require_length : mg "require_length" = some (.ref a_require_length)
  a_require_slots : Addr
  fd_require_slots : FuncData
  F_require_slots : FnP K "require_slots" "require_slots" s_require_slots a_require_slots fd_require_slots
  b_require_slots : Binds K fd_require_slots ["value"] []
  g_require_slots : mg "require_slots" = some (.ref a_require_slots)
  a_require_task : Addr
  fd_require_task : FuncData
  F_require_task : FnP K "require_task" "require_task" s_require_task a_require_task fd_require_task
  b_require_task : Binds K fd_require_task ["length", "slots"] []
  g_require_task : mg "require_task" = some (.ref a_require_task)
  a_reach_of : Addr
  fd_reach_of : FuncData
  F_reach_of : FnP K "reach_of" "reach_of" s_reach_of a_reach_of fd_reach_of
  b_reach_of : Binds K fd_reach_of ["slots", "rounds"] []
  g_reach_of : mg "reach_of" = some (.ref a_reach_of)
  a_rounds_of : Addr
  fd_rounds_of : FuncData
  F_rounds_of : FnP K "rounds_of" "rounds_of" s_rounds_of a_rounds_of fd_rounds_of
  b_rounds_of : Binds K fd_rounds_of ["length", "slots"] []
  g_rounds_of : mg "rounds_of" = some (.ref a_rounds_of)
  a_steps_with : Addr
  fd_steps_with : FuncData
  F_steps_with : FnP K "steps_with" "steps_with" s_steps_with a_steps_with fd_steps_with
  b_steps_with : Binds K fd_steps_with ["length", "slots", "rounds"] []
  g_steps_with : mg "steps_with" = some (.ref a_steps_with)
  a_least_of : Addr
  fd_least_of : FuncData
  F_least_of : FnP K "least_of" "least_of" s_least_of a_least_of fd_least_of
  b_least_of : Binds K fd_least_of ["length", "slots"] []
  g_least_of : mg "least_of" = some (.ref a_least_of)
  a_least_steps : Addr
  fd_least_steps : FuncData
  F_least_steps : FnP K "least_steps" "least_steps" s_least_steps a_least_steps fd_least_steps
  b_least_steps : Binds K fd_least_steps ["length", "slots"] []
  g_least_steps : mg "least_steps" = some (.ref a_least_steps)
  a_step_times : Addr
  fd_step_times : FuncData
  F_step_times : FnP K "step_times" "step_times" s_step_times a_step_times fd_step_times
  b_step_times : Binds K fd_step_times ["length", "slots"] []
  g_step_times : mg "step_times" = some (.ref a_step_times)
  a_L_wound : Addr
  fd_L_wound : FuncData
  F_L_wound : FnP K "_law_wound" "_law_wound" s_L_wound a_L_wound fd_L_wound
  b_L_wound : Binds K fd_L_wound ["_law_script", "_law_k"] []
  g_L_wound : mg "_law_wound" = some (.ref a_L_wound)
  a_L_spin : Addr
  fd_L_spin : FuncData
  F_L_spin : FnP K "_law_spin" "_law_spin" s_L_spin a_L_spin fd_L_spin
  b_L_spin : Binds K fd_L_spin ["_law_reel", "_law_many"] []
  g_L_spin : mg "_law_spin" = some (.ref a_L_spin)
  a_L_choose : Addr
  fd_L_choose : FuncData
  F_L_choose : FnP K "_law_choose" "_law_choose" s_L_choose a_L_choose fd_L_choose
  b_L_choose : Binds K fd_L_choose ["_law_slots", "_law_rounds_here"] []
  g_L_choose : mg "_law_choose" = some (.ref a_L_choose)
  a_L_rounds : Addr
  fd_L_rounds : FuncData
  F_L_rounds : FnP K "_law_rounds" "_law_rounds" s_L_rounds a_L_rounds fd_L_rounds
  b_L_rounds : Binds K fd_L_rounds ["_law_length", "_law_slots"] []
  g_L_rounds : mg "_law_rounds" = some (.ref a_L_rounds)
  a_L_great : Addr
  fd_L_great : FuncData
  F_L_great : FnP K "_law_great" "_law_great" s_L_great a_L_great fd_L_great
  b_L_great : Binds K fd_L_great ["_law_reel"] []
  g_L_great : mg "_law_great" = some (.ref a_L_great)
  a_L_table : Addr
  fd_L_table : FuncData
  F_L_table : FnP K "_law_table" "_law_table" s_L_table a_L_table fd_L_table
  b_L_table : Binds K fd_L_table ["_law_most", "_law_slots"] []
  g_L_table : mg "_law_table" = some (.ref a_L_table)
  a_L_times : Addr
  fd_L_times : FuncData
  F_L_times : FnP K "_law_times" "_law_times" s_L_times a_L_times fd_L_times
  b_L_times : Binds K fd_L_times ["_law_reel", "_law_table_here", "_law_n", "_law_s"] []
  g_L_times : mg "_law_times" = some (.ref a_L_times)
  a_L_small_right : Addr
  fd_L_small_right : FuncData
  F_L_small_right : FnP K "_law_small_right" "_law_small_right" s_L_small_right a_L_small_right fd_L_small_right
  b_L_small_right : Binds K fd_L_small_right ["_law_reel", "_law_table_here"] []
  g_L_small_right : mg "_law_small_right" = some (.ref a_L_small_right)
  a_L_is_refused : Addr
  fd_L_is_refused : FuncData
  F_L_is_refused : FnP K "_law_is_refused" "_law_is_refused" s_L_is_refused a_L_is_refused fd_L_is_refused
  b_L_is_refused : Binds K fd_L_is_refused ["_law_n", "_law_s"] []
  g_L_is_refused : mg "_law_is_refused" = some (.ref a_L_is_refused)
  a_L_great_right : Addr
  fd_L_great_right : FuncData
  F_L_great_right : FnP K "_law_great_right" "_law_great_right" s_L_great_right a_L_great_right fd_L_great_right
  b_L_great_right : Binds K fd_L_great_right ["_law_reel"] []
  g_L_great_right : mg "_law_great_right" = some (.ref a_L_great_right)
  a_law : Addr
  fd_law : FuncData
  F_law : FnP K "law" "law" s_law a_law fd_law
  b_law : Binds K fd_law ["_law_script"] []
  g_law : mg "law" = some (.ref a_law)
  n_isinstance : mg "isinstance" = none
  n_int : mg "int" = none
  n_bool : mg "bool" = none
  n_range : mg "range" = none
  n_min : mg "min" = none
  n_len : mg "len" = none
  n_max : mg "max" = none
  n_list : mg "list" = none
  n_enumerate : mg "enumerate" = none
  n_repr : mg "repr" = none
  n_sorted : mg "sorted" = none
  n_sum : mg "sum" = none
  t_MOST_LENGTH : Tok
  c_MOST_LENGTH : mg "MOST_LENGTH" = some (.int 1000000000000000000000000000000 t_MOST_LENGTH)
  t_MOST_SLOTS : Tok
  c_MOST_SLOTS : mg "MOST_SLOTS" = some (.int 100 t_MOST_SLOTS)
  t_MOST_ROUNDS : Tok
  c_MOST_ROUNDS : mg "MOST_ROUNDS" = some (.int 1000 t_MOST_ROUNDS)
  er : ErrI K mg [4, 7, 8, 17]
  sy : (K.lookup sysModules).isSome = true
  i_4 : InitF K (eC K 4) a_TooLarge___init__ "limit"
theorem scal_ii {i j : Int} : scal (.int i) (.int j) = true := rfl
theorem scal_bb {i j : Bool} : scal (.bl i) (.bl j) = true := rfl
theorem scal_ss {i j : Str} : scal (.str i) (.str j) = true := rfl
theorem scal_nn : scal .non .non = true := rfl
theorem scal_ni {j : Int} : scal .non (.int j) = true := rfl
theorem scal_in {j : Int} : scal (.int j) .non = true := rfl
theorem scal_ns {j : Str} : scal .non (.str j) = true := rfl
theorem scal_sn {j : Str} : scal (.str j) .non = true := rfl
theorem scal_nb {j : Bool} : scal .non (.bl j) = true := rfl
theorem scal_bn {j : Bool} : scal (.bl j) .non = true := rfl
theorem cxOf_K {C : CXT} {P : Program} {w : World} {K : PySem.W.Frag} {mg : Str → Option Value} {base : Heap} {N : List Str} {q : Str} {sc : Scope} {f : Addr} {cd : Value} {A : Around} {o : List Env} {s : Shared} {H : Hp} {E : XK} : (cxOf C P w K mg base N q sc f cd A o s H E).K = K := rfl
local macro_rules | `(tactic| walk_at "rd") => `(tactic| simp only [L2.start, List.map_cons, List.map_nil, List.length_cons, List.length_nil, Nat.reduceAdd, Nat.reduceSub, Nat.zero_add, List.replicate, List.cons_append, List.nil_append,
  cxOf_K, tSeq, tAsg, gName, tVar, tC, tOp, tUn, rI, rI0, rU, tCB, tCons, tNil, tIfS, StX.tStar, sDPut, tDGet, tLstRg, tTupRg, tRg1, tRg2, tTest, tB, tAnd, tOr, tNot, tAndV, tOrV, tNotV, tIf, tRet, tRetN, tDrop, tNext, tBreak, tCont, tNever, tPar, tPar3, tChain3, decide_false, decide_true, rMin3, rMax3, tAug, ipI, tChain, gTup, gTupT, tBM, tBM0, rAppend, tyV_list, rMin, rMax, gCons, gNil, tTup, tLst, tCall, tCallS, WE, tTryV, wAsV, tMkV, tMkI, tMatch, tCase, tMeth, tMake, tProp, tFld, sFld, sFldAug, tRemX, L2.rAdd, L2.rSub, gSub,
  rSetL, rIxL, rIxT, rIxLT, rIxTT, CPowC, sizeLine_eq, Nat.reduceLeDiff, gt_iff_lt, ge_iff_le, Int.reduceMod, Int.reduceDiv, atI_0, atI_1, atI_2, atI_3, atI_4, atI_5, ixN_30, ixN_31, ixN_32, upd_same, HO.lst.injEq, HO.tup.injEq, HO.ins.injEq, Int.reduceLE, Int.reduceLT, rEq, rNe, sp0, sp1, sp2, sp3, sp4, sp5, tNoPart, tPart, tSl, scal_ii, scal_bb, scal_ss, scal_nn, scal_ni, scal_in, scal_ns, scal_sn, scal_nb, scal_bn, rRep, rCat, rReprD, rReprI, rLenQ, rSlL, rSlT, rEqF, rNeF,
  List.append_nil, List.getElem?_cons_zero, List.getElem?_cons_succ, List.set_cons_zero, List.set_cons_succ, List.set_nil,
  Option.some.injEq, V.int.injEq, V.bl.injEq, V.str.injEq, V.ref.injEq, V.ty.injEq, List.cons.injEq, and_true, true_and, exists_eq_left', exists_eq_left, exists_eq_right, exists_and_left, eq_self, exists_eq, exists_eq', and_assoc,
  decide_eq_true_eq, Bool.not_eq_true', Bool.not_eq_true, decide_eq_false_iff_not, Bool.false_eq_true, if_true, if_false, ite_true, ite_false, Bool.not_true, Bool.not_false, not_true_eq_false, not_false_eq_true, Bool.true_eq_false, ↓reduceIte,
  Int.reduceToNat, Int.reducePow, Int.reduceAdd, Int.reduceMul, Int.reduceNeg, Int.reduceSub, reduceCtorEq, false_and, and_false, exists_false, false_or, or_false])
local macro_rules | `(tactic| walk_at "ar") => `(tactic| first | omega | (have hB := big_200; first | omega | (unfold CMulB; omega) | (unfold CDivB; omega) | (unfold CPowW; omega)) | decide)
theorem nox_K {X : Cx} : X.nox.K = X.K := rfl
local macro_rules | `(tactic| walk_at "rd") => `(tactic| simp only [L2.start, List.map_cons, List.map_nil, List.length_cons, List.length_nil, Nat.reduceAdd, Nat.reduceSub, Nat.zero_add, List.replicate, List.cons_append, List.nil_append,
  cxOf_K, nox_K, tMethD, tMethDS, tPropD, rEqI, tRevL, tSeq, tAsg, gName, tVar, tC, tOp, tUn, rI, rI0, rU, tCB, tCons, tNil, tIfS, StX.tStar, sDPut, tDGet, tLstRg, tTupRg, tRg1, tRg2, tTest, tB, tAnd, tOr, tNot, tAndV, tOrV, tNotV, tIf, tRet, tRetN, tDrop, tNext, tBreak, tCont, tNever, tPar, tPar3, tChain3, decide_false, decide_true, rMin3, rMax3, tAug, ipI, tChain, gTup, gTupT, tBM, tBM0, rAppend, tyV_list, rMin, rMax, gCons, gNil, tTup, tLst, tCall, tCallS, WE, tTryV, wAsV, tMkV, tMkI, tMatch, tCase, tMeth, tMake, tProp, tFld, sFld, sFldAug, tRemX, L2.rAdd, L2.rSub, gSub,
  rSetL, rIxL, rIxT, rIxLT, rIxTT, CPowC, sizeLine_eq, Nat.reduceLeDiff, gt_iff_lt, ge_iff_le, Int.reduceMod, Int.reduceDiv, atI_0, atI_1, atI_2, atI_3, atI_4, atI_5, ixN_30, ixN_31, ixN_32, upd_same, HO.lst.injEq, HO.tup.injEq, HO.ins.injEq, Int.reduceLE, Int.reduceLT, rEq, rNe, sp0, sp1, sp2, sp3, sp4, sp5, tNoPart, tPart, tSl, scal_ii, scal_bb, scal_ss, scal_nn, scal_ni, scal_in, scal_ns, scal_sn, scal_nb, scal_bn, rRep, rCat, rReprD, rReprI, rLenQ, rSlL, rSlT, rEqF, rNeF,
  List.append_nil, List.getElem?_cons_zero, List.getElem?_cons_succ, List.set_cons_zero, List.set_cons_succ, List.set_nil,
  Option.some.injEq, V.int.injEq, V.bl.injEq, V.str.injEq, V.ref.injEq, V.ty.injEq, List.cons.injEq, and_true, true_and, exists_eq_left', exists_eq_left, exists_eq_right, exists_and_left, eq_self, exists_eq, exists_eq', and_assoc,
  decide_eq_true_eq, Bool.not_eq_true', Bool.not_eq_true, decide_eq_false_iff_not, Bool.false_eq_true, if_true, if_false, ite_true, ite_false, Bool.not_true, Bool.not_false, not_true_eq_false, not_false_eq_true, Bool.true_eq_false, ↓reduceIte,
  Int.reduceToNat, Int.reducePow, Int.reduceAdd, Int.reduceMul, Int.reduceNeg, Int.reduceSub, reduceCtorEq, false_and, and_false, exists_false, false_or, or_false])
section
variable {P : Program} {w : World} {K : PySem.W.Frag} {mg : Str → Option Value} {base : Heap}
/-! ### checks -/
def sp_is_int (K : PySem.W.Frag) : Sp := sp1 fun a H Q _ => ∃ o, IntOr K H a o ∧ Q (.bl o.isSome) H
theorem sc_is_int : FnScope ["value"] ["value"] (defScope s_is_int) := ⟨rfl, rfl, rfl, by decide +kernel, rfl, by decide +kernel, by decide +kernel⟩
theorem ok_is_int (T : Txt P w K mg base) : GOk P w K mg base (L2.CX P w) 1 T.a_is_int T.fd_is_int ["value"] (sp_is_int K) := by
  refine FunD.gok T.F_is_int sc_is_int (fun vs H Q E h => ar1 h) (fun cdv A fr s H vs Q E hr hc h => ⟨_, PSs.nox (pss_one (ps_ret (pe_and (pe_callB (r := rIsi K) call_isi (by rfl) T.n_isinstance (by decide +kernel) (pa_cons (pv 0) (pa_cons (pe_bltn (v := .ty "int") (by rfl) T.n_int (by decide +kernel) rfl) pa_nil))) (pe_one (pe_not (pe_callB (r := rIsi K) call_isi (by rfl) T.n_isinstance (by decide +kernel) (pa_cons (pv 0) (pa_cons (pe_bltn (v := .ty "bool") (by rfl) T.n_bool (by decide +kernel) rfl) pa_nil)))))))), ?_⟩)
  obtain ⟨_, rfl, o, h, q⟩ := h
  walk_at "rd"
  cases o with
  | some n =>
    cases h
    refine ⟨.int n, .ty "int", .type "int", .type "int", true, rfl, .ty _, .base (.int _), kit_ty kit_int_int, true, rfl, iteT ?_⟩
    exact ⟨.int n, .ty "bool", .type "int", .type "bool", false, rfl, .ty _, .base (.int _), kit_ty kit_int_bool, false, rfl, q⟩
  | none =>
    obtain ⟨t, b1, b2, ty, k1, k2, e⟩ := h
    refine ⟨_, .ty "int", .type t, .type "int", b1, rfl, .ty _, ty, kit_ty k1, b1, rfl, ?_⟩
    cases b1 with
    | false => exact iteF q
    | true =>
      refine iteT ⟨_, .ty "bool", .type t, .type "bool", b2, rfl, .ty _, ty, kit_ty k2, b2, rfl, ?_⟩
      have e2 : (!b2) = false := by simpa using e
      rw [e2]
      exact q
def sp_is_whole (K : PySem.W.Frag) : Sp := sp3 fun a b c H Q _ => ∃ (o : Option Int) (lo hi : Int), IntOr K H a o ∧ b = .int lo ∧ c = .int hi ∧ Q (.bl (whole o lo hi)) H
theorem sc_is_whole : FnScope ["value", "low", "high"] ["value", "low", "high"] (defScope s_is_whole) := ⟨rfl, rfl, rfl, by decide +kernel, rfl, by decide +kernel, by decide +kernel⟩
theorem ok_is_whole (T : Txt P w K mg base) : GOk P w K mg base (L2.CX P w) 2 T.a_is_whole T.fd_is_whole ["value", "low", "high"] (sp_is_whole K) := by
  refine FunD.gok T.F_is_whole sc_is_whole (fun vs H Q E h => ar3 h) (fun cdv A fr s H vs Q E hr hc h => ⟨_, PSs.nox (pss_one (ps_ret (pe_and (pe_callG (ok_is_int T) hr hc (by rfl) T.g_is_int T.F_is_int.kp T.b_is_int .nil passL (pa_cons (pv 0) pa_nil)) (pe_one (pe_chain op_le op_le (pv 1) (pv 0) (pv 2)))))), ?_⟩)
  obtain ⟨_, _, _, rfl, o, lo, hi, h, rfl, rfl, q⟩ := h
  walk_at "rd"
  unfold sp_is_int
  walk_at "rd"
  refine ⟨o, h, ?_⟩
  cases o with
  | none => exact q
  | some n =>
    cases h
    have e : whole (some n) lo hi = (decide (lo ≤ n) && decide (n ≤ hi)) := by unfold whole; simp
    rw [e] at q
    simp only [Option.isSome_some]
    walk_at "rd"
    refine ite2 (fun h => ?_) (fun h => ?_)
    · rw [decide_eq_true h, Bool.true_and] at q
      exact q
    · rw [decide_eq_false h, Bool.false_and] at q
      exact q
/-! ### reaches -/
def sp_require_slots (K : PySem.W.Frag) : Sp := sp1 fun a H Q _ => ∃ (n : Int), a = .int n ∧ 1 ≤ n ∧ n ≤ 100 ∧ Q .non H
theorem sc_require_slots : FnScope ["value"] ["value"] (defScope s_require_slots) := ⟨rfl, rfl, rfl, by decide +kernel, rfl, by decide +kernel, by decide +kernel⟩
theorem ok_require_slots (T : Txt P w K mg base) : GOk P w K mg base (L2.CX P w) 3 T.a_require_slots T.fd_require_slots ["value"] (sp_require_slots K) := by
  refine FunD.gok T.F_require_slots sc_require_slots (fun vs H Q E h => ar1 h) (fun cdv A fr s H vs Q E hr hc h => ⟨_, PSs.nox (pss_one (ps_if (pt_not (pt_val (pe_callG (ok_is_whole T) hr hc (by rfl) T.g_is_whole T.F_is_whole.kp T.b_is_whole .nil passL (pa_cons (pv 0) (pa_cons pe_int (pa_cons (pe_glob (v := .int 100) (by rfl) T.c_MOST_SLOTS ⟨_, rfl⟩) pa_nil)))))) (pss_one ps_never) pss_nil)), ?_⟩)
  obtain ⟨_, rfl, n, rfl, h1, h2, q⟩ := h
  walk_at "rd"
  unfold sp_is_whole
  walk_at "rd"
  refine ⟨some n, rfl, ?_⟩
  have e : whole (some n) 1 100 = true := by unfold whole; exact decide_eq_true ⟨h1, h2⟩
  rw [e]
  exact iteTF q
def sp_require_length (K : PySem.W.Frag) : Sp := sp1 fun a H Q _ => ∃ (n : Int), a = .int n ∧ 1 ≤ n ∧ n ≤ 10 ^ 30 ∧ Q .non H
theorem sc_require_length : FnScope ["value"] ["value"] (defScope s_require_length) := ⟨rfl, rfl, rfl, by decide +kernel, rfl, by decide +kernel, by decide +kernel⟩
theorem ok_require_length (T : Txt P w K mg base) : GOk P w K mg base (L2.CX P w) 3 T.a_require_length T.fd_require_length ["value"] (sp_require_length K) := by
  refine FunD.gok T.F_require_length sc_require_length (fun vs H Q E h => ar1 h) (fun cdv A fr s H vs Q E hr hc h => ⟨_, PSs.nox (pss_one (ps_if (pt_not (pt_val (pe_callG (ok_is_whole T) hr hc (by rfl) T.g_is_whole T.F_is_whole.kp T.b_is_whole .nil passL (pa_cons (pv 0) (pa_cons pe_int (pa_cons (pe_glob (v := .int 1000000000000000000000000000000) (by rfl) T.c_MOST_LENGTH ⟨_, rfl⟩) pa_nil)))))) (pss_one ps_never) pss_nil)), ?_⟩)
  obtain ⟨_, rfl, n, rfl, h1, h2, q⟩ := h
  walk_at "rd"
  unfold sp_is_whole
  walk_at "rd"
  refine ⟨some n, rfl, ?_⟩
  have e : whole (some n) 1 1000000000000000000000000000000 = true := by unfold whole; exact decide_eq_true ⟨h1, by omega⟩
  rw [e]
  exact iteTF q
def sp_require_task (K : PySem.W.Frag) : Sp := sp2 fun a b H Q _ => ∃ (n s : Int), a = .int n ∧ b = .int s ∧ 1 ≤ n ∧ n ≤ 10 ^ 30 ∧ 1 ≤ s ∧ s ≤ 100 ∧ Q .non H
theorem sc_require_task : FnScope ["length", "slots"] ["length", "slots"] (defScope s_require_task) := ⟨rfl, rfl, rfl, by decide +kernel, rfl, by decide +kernel, by decide +kernel⟩
theorem ok_require_task (T : Txt P w K mg base) : GOk P w K mg base (L2.CX P w) 4 T.a_require_task T.fd_require_task ["length", "slots"] (sp_require_task K) := by
  refine FunD.gok T.F_require_task sc_require_task (fun vs H Q E h => ar2 h) (fun cdv A fr s H vs Q E hr hc h => ⟨_, PSs.nox (pss_cons (ps_expr (pe_callG (ok_require_length T) hr hc (by rfl) T.g_require_length T.F_require_length.kp T.b_require_length .nil passL (pa_cons (pv 0) pa_nil))) (pss_one (ps_expr (pe_callG (ok_require_slots T) hr hc (by rfl) T.g_require_slots T.F_require_slots.kp T.b_require_slots .nil passL (pa_cons (pv 1) pa_nil))))), ?_⟩)
  obtain ⟨_, _, rfl, n, s, rfl, rfl, h1, h2, h3, h4, q⟩ := h
  walk_at "rd"
  unfold sp_require_length sp_require_slots
  walk_at "rd"
  exact ⟨h1, by omega, h3, h4, q⟩
def sp_reach_of (K : PySem.W.Frag) : Sp := sp2 fun a b H Q _ => ∃ (s r : Int), a = .int s ∧ b = .int r ∧ 0 ≤ s ∧ s ≤ 102 ∧ -1 ≤ r ∧ r ≤ 2 ^ 110 ∧ Q (.int (Rz s r)) H
theorem Rz_big {s r : Int} (h1 : s ≤ 102) (h2 : r ≤ 2 ^ 112) : Rz s r < BIG := by
  unfold Rz
  have hB := big_200
  split
  · split <;> omega
  · have h := R_le s.toNat r.toNat
    have h3 : (((r.toNat + 1) ^ s.toNat : Nat) : Int) < BIG := big_pow (a := 113) (b := 102) (by decide) (by omega) (by omega)
    omega
theorem sc_reach_of : FnScope ["slots", "rounds", "found", "turn"] ["slots", "rounds"] (defScope s_reach_of) := ⟨rfl, rfl, rfl, by decide +kernel, rfl, by decide +kernel, by decide +kernel⟩
theorem ok_reach_of (T : Txt P w K mg base) : GOk P w K mg base (L2.CX P w) 1 T.a_reach_of T.fd_reach_of ["slots", "rounds"] (sp_reach_of K) := by
  refine FunD.gok T.F_reach_of sc_reach_of (fun vs H Q E h => ar2 h) (fun cdv A fr s H vs Q E hr hc h => ⟨_, PSs.nox (pss_cons (ps_set (i := 2) sc_reach_of.nd rfl (.inl rfl) pe_int) (pss_cons (ps_for PassesOwn.never rfl (pi_range2 (by rfl) T.n_range (pa_cons pe_int (pa_cons (pe_op op_add (pv 0) pe_int) pa_nil))) (pg_name (i := 3) sc_reach_of.nd rfl (.inl rfl)) (pss_one (ps_set (i := 2) sc_reach_of.nd rfl (.inl rfl) (pe_op op_divB (pe_op op_mulB (pv 2) (pe_op op_add (pv 1) (pv 3))) (pv 3))))) (pss_one (ps_ret (pv 2))))), ?_⟩)
  obtain ⟨_, _, rfl, s, r, rfl, rfl, h1, h2, h3, h4, q⟩ := h
  walk_at "rd"
  refine for_rng2 (lo := 1) (hi := s + 1) s.toNat (fun R q => by walk_at "rd"; exact q) (by omega) (by omega)
    (fun i σ H' => H' = H ∧ ∃ x, σ = [some (.int s), some (.int r), some (.int (Rz i r)), x]) ⟨rfl, none, by rw [show ((0 : Nat) : Int) = 0 by rfl, Rz_zero]⟩ ?_ ?_
  · rintro σ H' ⟨rfl, x, rfl⟩
    walk_at "rd"
    rw [show ((s.toNat : Nat) : Int) = s by omega]
    exact q
  · rintro i σ H' hi ⟨rfl, x, rfl⟩
    walk_at "rd"
    have b1 : Rz (i : Int) r < BIG := Rz_big (by omega) (by omega)
    have b2 := Rz_nonneg (i : Int) r
    have hB := big_200
    refine ⟨⟨⟨by omega, by omega⟩, by omega, by omega⟩, ⟨by omega, by omega⟩, ?_⟩
    rw [show (1 : Int) + (i : Int) = (i : Int) + 1 by omega, Rz_turn (by omega) h3]
    rfl
def sp_rounds_of (K : PySem.W.Frag) : Sp := sp2 fun a b H Q _ => ∃ (n s : Int), a = .int n ∧ b = .int s ∧ 1 ≤ n ∧ n ≤ 10 ^ 30 ∧ 1 ≤ s ∧ s ≤ 101 ∧ ∀ H', Ex H H' → Q (.int (rho n s)) H'
theorem sc_rounds_of : FnScope ["length", "slots", "low", "high", "middle"] ["length", "slots"] (defScope s_rounds_of) := ⟨rfl, rfl, rfl, by decide +kernel, rfl, by decide +kernel, by decide +kernel⟩
theorem ok_rounds_of (T : Txt P w K mg base) : GOk P w K mg base (L2.CX P w) 2 T.a_rounds_of T.fd_rounds_of ["length", "slots"] (sp_rounds_of K) := by
  refine FunD.gok T.F_rounds_of sc_rounds_of (fun vs H Q E h => ar2 h) (fun cdv A fr s H vs Q E hr hc h => ⟨_, PSs.nox (pss_cons (ps_asg (pe_tup (pa_cons (pe_un un_neg pe_int) (pa_cons pe_int pa_nil))) (pg_tupT (n := 2) rfl (pgs_cons (pg_name (i := 2) sc_rounds_of.nd rfl (.inl rfl)) (pgs_cons (pg_name (i := 3) sc_rounds_of.nd rfl (.inl rfl)) pgs_nil)))) (pss_cons (ps_while PassesOwn.never (pt_cmpR op_lt (pe_callG (ok_reach_of T) hr hc (by rfl) T.g_reach_of T.F_reach_of.kp T.b_reach_of .nil passL (pa_cons (pv 1) (pa_cons (pv 3) pa_nil))) (pv 0) (nomark _)) (pss_one (ps_par (i := 2) (j := 3) (by rfl) sc_rounds_of.nd rfl rfl (by decide) rfl rfl (pa_cons (pv 3) (pa_cons (pe_op op_mulB pe_int (pv 3)) pa_nil)) (by rfl)))) (pss_cons (ps_while PassesOwn.never (pt_cmpR op_gt (pe_op op_sub (pv 3) (pv 2)) pe_int (nomark _)) (pss_cons (ps_set (i := 4) sc_rounds_of.nd rfl (.inl rfl) (pe_op op_divB (pe_op op_add (pv 2) (pv 3)) pe_int)) (pss_one (ps_if (pt_cmpR op_lt (pe_callG (ok_reach_of T) hr hc (by rfl) T.g_reach_of T.F_reach_of.kp T.b_reach_of .nil passL (pa_cons (pv 1) (pa_cons (pv 4) pa_nil))) (pv 0) (nomark _)) (pss_one (ps_set (i := 2) sc_rounds_of.nd rfl (.inl rfl) (pv 4))) (pss_one (ps_set (i := 3) sc_rounds_of.nd rfl (.inl rfl) (pv 4))))))) (pss_one (ps_ret (pv 3)))))), ?_⟩)
  obtain ⟨_, _, rfl, n, s, rfl, rfl, h1, h2, h3, h4, q⟩ := h
  walk_at "rd"
  intro p hp
  refine ⟨fun m σ H' => Ex H H' ∧ ∃ low high x, σ = [some (.int n), some (.int s), some (.int low), some (.int high), x] ∧ -1 ≤ low ∧ low < high ∧ 1 ≤ high ∧ high ≤ 2 * n ∧ Rz s low < n ∧ m = (2 * n - high).toNat,
    ⟨_, exn hp, -1, 1, _, rfl, by omega, by omega, by omega, by omega, by rw [Rz_neg (by omega)]; omega, rfl⟩, ?_⟩
  rintro m σ H' ⟨eH, low, high, x, rfl, l1, l2, l3, l4, l5, rfl⟩
  walk_at "rd"
  unfold sp_reach_of
  walk_at "rd"
  refine ⟨by omega, by omega, by omega, by omega, ?_⟩
  refine ite2 (fun hlt => ?_) (fun hge => ?_)
  · have hg := Rz_gt (s := s) (r := high) h3 (by omega)
    refine ⟨fun σ' H'' => H'' = H' ∧ ∃ low' high' x', σ' = [some (.int n), some (.int s), some (.int low'), some (.int high'), x'] ∧ -1 ≤ low' ∧ low' < high' ∧ 1 ≤ high' ∧ high' ≤ 2 * n ∧ Rz s low' < n ∧ high < high',
      fun σ' H'' ⟨e, low', high', x', e1, e2, e3, e4, e5, e6, e7⟩ => ⟨_, ?_, by rw [e]; exact eH, low', high', x', e1, e2, e3, e4, e5, e6, rfl⟩, ?_, ?_⟩
    · omega
    · unfold CMulB; have hB := big_200; omega
    · refine ⟨rfl, high, 2 * high, x, rfl, by omega, by omega, by omega, by omega, hlt, by omega⟩
  · refine ⟨fun m σ H'' => H'' = H' ∧ ∃ low high x, σ = [some (.int n), some (.int s), some (.int low), some (.int high), x] ∧ -1 ≤ low ∧ low < high ∧ high ≤ 2 * n ∧ Rz s low < n ∧ n ≤ Rz s high ∧ m = (high - low).toNat,
      ⟨_, rfl, low, high, x, rfl, l1, l2, l4, l5, by omega, rfl⟩, ?_⟩
    rintro m σ H'' ⟨rfl, low, high, x, rfl, l1, l2, l4, l5, l6, rfl⟩
    walk_at "rd"
    refine ite2 (fun hlt => ?_) (fun hge => ?_)
    · refine ⟨fun σ' H' => H' = H'' ∧ ∃ low' high' x', σ' = [some (.int n), some (.int s), some (.int low'), some (.int high'), x'] ∧ -1 ≤ low' ∧ low' < high' ∧ high' ≤ 2 * n ∧ Rz s low' < n ∧ n ≤ Rz s high' ∧ high' - low' < high - low,
        fun σ' H' ⟨e, low', high', x', e1, e2, e3, e5, e6, e7, e8⟩ => ⟨_, ?_, e, low', high', x', e1, e2, e3, e5, e6, e7, rfl⟩, ?_⟩
      · omega
      · unfold CDivB
        refine ⟨by omega, by omega, by omega, by omega, by omega, ?_⟩
        refine ite2 (fun h => ?_) (fun h => ?_)
        · exact ⟨rfl, (low + high) / 2, high, _, rfl, by omega, by omega, by omega, h, l6, by omega⟩
        · exact ⟨rfl, low, (low + high) / 2, _, rfl, by omega, by omega, by omega, l5, by omega, by omega⟩
    · have e : rho n s = high := rho_eq h1 h3 (by omega) l6 (by rw [show high - 1 = low by omega]; exact l5)
      rw [e] at q
      exact q _ eH
theorem tz_lt_big {n s : Int} (hn : 1 ≤ n) (h2 : n ≤ 10 ^ 30) (hs : 1 ≤ s) (hs2 : s ≤ 101) : tz n s ≤ n * n := by
  have h0 := rho_nonneg n s
  have h1 := rho_lt (n := n) (s := s) hn hs
  have h3 := Rz_nonneg (s + 1) (rho n s - 1)
  have h4 : rho n s * n ≤ n * n := Int.mul_le_mul_of_nonneg_right (by omega) (by omega)
  unfold tz
  omega
theorem sq_big {n : Int} (hn : 0 ≤ n) (h2 : n ≤ 10 ^ 30) : n * n ≤ 10 ^ 60 := by
  calc n * n ≤ 10 ^ 30 * n := Int.mul_le_mul_of_nonneg_right h2 hn
    _ ≤ 10 ^ 30 * 10 ^ 30 := Int.mul_le_mul_of_nonneg_left h2 (by decide)
    _ = 10 ^ 60 := by decide
def sp_steps_with (K : PySem.W.Frag) : Sp := sp3 fun a b c H Q _ => ∃ (n s : Int), a = .int n ∧ b = .int s ∧ c = .int (rho n s) ∧ 1 ≤ n ∧ n ≤ 10 ^ 30 ∧ 1 ≤ s ∧ s ≤ 101 ∧ Q (.int (tz n s)) H
theorem sc_steps_with : FnScope ["length", "slots", "rounds"] ["length", "slots", "rounds"] (defScope s_steps_with) := ⟨rfl, rfl, rfl, by decide +kernel, rfl, by decide +kernel, by decide +kernel⟩
theorem ok_steps_with (T : Txt P w K mg base) : GOk P w K mg base (L2.CX P w) 2 T.a_steps_with T.fd_steps_with ["length", "slots", "rounds"] (sp_steps_with K) := by
  refine FunD.gok T.F_steps_with sc_steps_with (fun vs H Q E h => ar3 h) (fun cdv A fr s H vs Q E hr hc h => ⟨_, PSs.nox (pss_one (ps_ret (pe_op op_sub (pe_op op_mulB (pv 2) (pv 0)) (pe_callG (ok_reach_of T) hr hc (by rfl) T.g_reach_of T.F_reach_of.kp T.b_reach_of .nil passL (pa_cons (pe_op op_add (pv 1) pe_int) (pa_cons (pe_op op_sub (pv 2) pe_int) pa_nil)))))), ?_⟩)
  obtain ⟨_, _, _, rfl, n, s, rfl, rfl, rfl, h1, h2, h3, h4, q⟩ := h
  walk_at "rd"
  unfold sp_reach_of
  walk_at "rd"
  have r0 := rho_nonneg n s
  have r1 := rho_lt (n := n) (s := s) h1 h3
  exact ⟨by walk_at "ar", by omega, by omega, by omega, by omega, q⟩
def sp_least_of (K : PySem.W.Frag) : Sp := sp2 fun a b H Q _ => ∃ (n s : Int), a = .int n ∧ b = .int s ∧ 1 ≤ n ∧ n ≤ 10 ^ 30 ∧ 1 ≤ s ∧ s ≤ 101 ∧ ∀ H', Ex H H' → Q (.int (tz n s)) H'
theorem sc_least_of : FnScope ["length", "slots"] ["length", "slots"] (defScope s_least_of) := ⟨rfl, rfl, rfl, by decide +kernel, rfl, by decide +kernel, by decide +kernel⟩
theorem ok_least_of (T : Txt P w K mg base) : GOk P w K mg base (L2.CX P w) 3 T.a_least_of T.fd_least_of ["length", "slots"] (sp_least_of K) := by
  refine FunD.gok T.F_least_of sc_least_of (fun vs H Q E h => ar2 h) (fun cdv A fr s H vs Q E hr hc h => ⟨_, PSs.nox (pss_one (ps_ret (pe_callG (ok_steps_with T) hr hc (by rfl) T.g_steps_with T.F_steps_with.kp T.b_steps_with .nil passL (pa_cons (pv 0) (pa_cons (pv 1) (pa_cons (pe_callG (ok_rounds_of T) hr hc (by rfl) T.g_rounds_of T.F_rounds_of.kp T.b_rounds_of .nil passL (pa_cons (pv 0) (pa_cons (pv 1) pa_nil))) pa_nil)))))), ?_⟩)
  obtain ⟨_, _, rfl, n, s, rfl, rfl, h1, h2, h3, h4, q⟩ := h
  walk_at "rd"
  unfold sp_rounds_of sp_steps_with
  walk_at "rd"
  exact ⟨h1, h2, h3, h4, fun H' e => ⟨h1, by omega, h3, h4, q H' e⟩⟩
def sp_least_steps (K : PySem.W.Frag) : Sp := sp2 fun a b H Q _ => ∃ (n s : Int), a = .int n ∧ b = .int s ∧ 1 ≤ n ∧ n ≤ 10 ^ 30 ∧ 1 ≤ s ∧ s ≤ 100 ∧ ∀ H', Ex H H' → Q (.int (tz n s)) H'
theorem sc_least_steps : FnScope ["length", "slots"] ["length", "slots"] (defScope s_least_steps) := ⟨rfl, rfl, rfl, by decide +kernel, rfl, by decide +kernel, by decide +kernel⟩
theorem ok_least_steps (T : Txt P w K mg base) : GOk P w K mg base (L2.CX P w) 5 T.a_least_steps T.fd_least_steps ["length", "slots"] (sp_least_steps K) := by
  refine FunD.gok T.F_least_steps sc_least_steps (fun vs H Q E h => ar2 h) (fun cdv A fr s H vs Q E hr hc h => ⟨_, PSs.nox (pss_cons (ps_expr (pe_callG (ok_require_task T) hr hc (by rfl) T.g_require_task T.F_require_task.kp T.b_require_task .nil passL (pa_cons (pv 0) (pa_cons (pv 1) pa_nil)))) (pss_one (ps_ret (pe_callG (ok_least_of T) (hr.mono (by decide)) hc (by rfl) T.g_least_of T.F_least_of.kp T.b_least_of .nil passL (pa_cons (pv 0) (pa_cons (pv 1) pa_nil)))))), ?_⟩)
  obtain ⟨_, _, rfl, n, s, rfl, rfl, h1, h2, h3, h4, q⟩ := h
  walk_at "rd"
  unfold sp_require_task sp_least_of
  walk_at "rd"
  exact ⟨h1, h2, h3, h4, h1, h2, h3, by omega, q⟩
theorem sc_TooLarge___init__ : FnScope ["self", "limit"] ["self", "limit"] (defScope s_TooLarge___init__) := ⟨rfl, rfl, rfl, by decide +kernel, rfl, by decide +kernel, by decide +kernel⟩
theorem ok_TooLarge___init__ (T : Txt P w K mg base) : FnOk P w K mg base (L2.CX P w) 1 T.a_TooLarge___init__ T.fd_TooLarge___init__ ["self", "limit"] (spIn K "limit") := by
  refine FunD.ok T.F_TooLarge___init__ sc_TooLarge___init__ (spIn_len rfl) (fun cdv A fr s H vs Q E hr h => ⟨_, (pss_one (ps_ost (pv 0) (pv 1))), ?_⟩)
  obtain ⟨a, C, v, rfl, ox, no, ha, q⟩ := h
  exact ⟨_, rfl, _, rfl, a, C, rfl, ox, no, .inl ⟨ha, fun dx h1 h2 => q dx h1 h2⟩⟩
/-! ### draws -/
def Reel (H : Hp) (r : Addr) (m : Int) : Prop := ∃ a b c : Int, H r = some (.lst [.int a, .int b, .int c]) ∧ 0 ≤ a ∧ 0 ≤ b ∧ b ≤ 10 ^ 60 ∧ 0 ≤ c ∧ c ≤ m
theorem Reel.keep {H H' : Hp} {r : Addr} {m : Int} (h : Reel H r m) (k : ∀ o, H r = some o → H' r = some o) : Reel H' r m := by
  obtain ⟨a, b, c, e, q⟩ := h
  exact ⟨a, b, c, k _ e, q⟩
theorem Reel.ex {H H' : Hp} {r : Addr} {m : Int} (h : Reel H r m) (e : Ex H H') : Reel H' r m := h.keep fun o q => e r o q
theorem Reel.ne {H : Hp} {r p : Addr} {m : Int} (h : Reel H r m) (hp : H p = none) : p ≠ r := by
  obtain ⟨a, b, c, e, q⟩ := h
  exact (ne_of_none e hp).symm
theorem Reel.up {H : Hp} {r : Addr} {m m' : Int} (h : Reel H r m) (l : m ≤ m') : Reel H r m' := by
  obtain ⟨a, b, c, e, q1, q2, q3, q4, q5⟩ := h
  exact ⟨a, b, c, e, q1, q2, q3, q4, by omega⟩
theorem mo_none {H H' : Hp} {r p : Addr} {m : Int} (o : Mo r H H') (h : Reel H' r m) (hp : H' p = none) : H p = none := by
  cases q : H p with
  | none => rfl
  | some u => rw [o p u (h.ne hp) q] at hp; cases hp
def sp_L_wound (K : PySem.W.Frag) : Sp := sp2 fun x y H Q _ => ∃ (a : Addr) (ns : List Int) (k : Nat), x = .ref a ∧ y = .int k ∧ SqL K H a (ns.map V.int) ∧ ns.length ≤ 63 ∧ k ≤ 63 ∧ ∀ r H', H r = none → Ex H H' → Reel H' r 0 → Q (.ref r) H'
theorem sc_L_wound : FnScope ["_law_script", "_law_k", "_law_cell"] ["_law_script", "_law_k"] (defScope s_L_wound) := ⟨rfl, rfl, rfl, by decide +kernel, rfl, by decide +kernel, by decide +kernel⟩
theorem ok_L_wound (T : Txt P w K mg base) : GOk P w K mg base (L2.CX P w) 1 T.a_L_wound T.fd_L_wound ["_law_script", "_law_k"] (sp_L_wound K) := by
  refine FunD.gok T.F_L_wound sc_L_wound (fun vs H Q E h => ar2 h) (fun cdv A fr s H vs Q E hr hc h => ⟨_, PSs.nox (pss_cons (ps_set (i := 2) sc_L_wound.nd rfl (.inl rfl) pe_int) (pss_cons (ps_if (pt_cmpR op_lt (pv 1) (pe_callB (r := rLenQ K) call_lenQ (by rfl) T.n_len (by decide +kernel) (pa_cons (pv 0) pa_nil)) (nomark _)) (pss_one (ps_set (i := 2) sc_L_wound.nd rfl (.inl rfl) (pe_ix (r := rIxL K) ix_list (pv 0) (pv 1) (fun _ _ => rfl)))) pss_nil) (pss_one (ps_ret (pe_lst (pa_cons (pe_callB (call_max2 rfl) (by rfl) T.n_max (by decide +kernel) (pa_cons pe_int (pa_cons (pe_op op_sub (pv 2) (pe_op op_powC pe_int pe_int)) pa_nil))) (pa_cons (pe_op op_add (pe_op op_add (pe_op op_mulB (pe_op op_mod (pe_callTy call_intI (by rfl) T.n_int (by decide +kernel) (pa_cons (pv 2) pa_nil)) (pe_op op_add (pe_op op_powC pe_int pe_int) pe_int)) pe_int) (pe_op op_mulB pe_int (pv 1))) pe_int) (pa_cons pe_int pa_nil)))))))), ?_⟩)
  obtain ⟨_, _, rfl, a, ns, k, rfl, rfl, hS, hl, hk, q⟩ := h
  walk_at "rd"
  refine ⟨_, .inl hS, ?_⟩
  rw [List.length_map]
  refine ite2 (fun hlt => ?_) (fun _ => ?_)
  · have hlt' : k < ns.length := by omega
    refine ⟨_, hS, .int ns[k], atI_nat (by rw [List.getElem?_map, List.getElem?_eq_getElem hlt']; rfl), ns[k], rfl, ns[k], rfl, by walk_at "ar", by walk_at "ar", fun p hp => q p _ hp (exn hp) ⟨_, _, _, upd_same, ?_, ?_, ?_, ?_, ?_⟩⟩
    · split <;> omega
    all_goals omega
  · refine ⟨by walk_at "ar", by walk_at "ar", fun p hp => q p _ hp (exn hp) ⟨_, _, _, upd_same, ?_, ?_, ?_, ?_, ?_⟩⟩
    all_goals omega
def sp_L_spin (K : PySem.W.Frag) : Sp := sp2 fun x y H Q _ => ∃ (r : Addr) (n m : Int), x = .ref r ∧ y = .int n ∧ Reel H r m ∧ m ≤ 10 ^ 60 ∧ 1 ≤ n ∧ n ≤ 10 ^ 100 ∧ ∀ z H', 0 ≤ z → z < n → Mo r H H' → Reel H' r (m + 1) → Q (.int z) H'
theorem sc_L_spin : FnScope ["_law_reel", "_law_many", "_law_drawn", "_law_mixed"] ["_law_reel", "_law_many"] (defScope s_L_spin) := ⟨rfl, rfl, rfl, by decide +kernel, rfl, by decide +kernel, by decide +kernel⟩
theorem ok_L_spin (T : Txt P w K mg base) : GOk P w K mg base (L2.CX P w) 1 T.a_L_spin T.fd_L_spin ["_law_reel", "_law_many"] (sp_L_spin K) := by
  refine FunD.gok T.F_L_spin sc_L_spin (fun vs H Q E h => ar2 h) (fun cdv A fr s H vs Q E hr hc h => ⟨_, PSs.nox (pss_cons (ps_if (pt_cmpR op_gt (pe_ix ix_listT (pv 0) pe_int (fun _ _ => rfl)) pe_int (nomark _)) (pss_cons (ps_set (i := 2) sc_L_spin.nd rfl (.inl rfl) (pe_op op_mod (pe_callTy call_intI (by rfl) T.n_int (by decide +kernel) (pa_cons (pe_ix ix_listT (pv 0) pe_int (fun _ _ => rfl)) pa_nil)) (pv 1))) (pss_cons (ps_asg (pe_op op_divB (pe_ix ix_listT (pv 0) pe_int (fun _ _ => rfl)) (pv 1)) (pg_sub (pv 0) pe_int set_list)) (pss_one (ps_ret (pv 2))))) pss_nil) (pss_cons (ps_asg (pe_op op_add (pe_ix ix_listT (pv 0) pe_int (fun _ _ => rfl)) pe_int) (pg_sub (pv 0) pe_int set_list)) (pss_cons (ps_set (i := 3) sc_L_spin.nd rfl (.inl rfl) (pe_op op_mod (pe_callTy call_intI (by rfl) T.n_int (by decide +kernel) (pa_cons (pe_op op_powB (pe_op op_add (pe_ix ix_listT (pv 0) pe_int (fun _ _ => rfl)) (pe_op op_mulB pe_int (pe_ix ix_listT (pv 0) pe_int (fun _ _ => rfl)))) pe_int) pa_nil)) (pe_op op_add (pe_op op_powC pe_int pe_int) pe_int))) (pss_cons (ps_set (i := 3) sc_L_spin.nd rfl (.inl rfl) (pe_op op_mod (pe_callTy call_intI (by rfl) T.n_int (by decide +kernel) (pa_cons (pe_op op_powB (pe_op op_add (pv 3) (pe_op op_mulB pe_int (pe_ix ix_listT (pv 0) pe_int (fun _ _ => rfl)))) pe_int) pa_nil)) (pe_op op_add (pe_op op_powC pe_int pe_int) pe_int))) (pss_one (ps_ret (pe_op op_mod (pe_callTy call_intI (by rfl) T.n_int (by decide +kernel) (pa_cons (pe_op op_divB (pv 3) pe_int) pa_nil)) (pv 1)))))))), ?_⟩)
  obtain ⟨_, _, rfl, r, n, m, rfl, rfl, ⟨a, b, c, hr0, ha, hb, hb2, hc0, hcm⟩, hm, hn, hn2, q⟩ := h
  walk_at "rd"
  simp only [hr0]
  walk_at "rd"
  have hB := big_200
  refine ite2 (fun h => ?_) (fun h => ?_)
  · refine ⟨by omega, by unfold CDivB; omega, q _ _ (Int.emod_nonneg _ (by omega)) (Int.emod_lt_of_pos _ (by omega)) Mo.upd ⟨_, _, _, upd_same, Int.ediv_nonneg ha (by omega), hb, hb2, hc0, by omega⟩⟩
  · refine ⟨by walk_at "ar", by walk_at "ar", by walk_at "ar", ?_⟩
    generalize (b + 86028121 * (c + 1)) ^ 3 = z1
    refine ⟨by walk_at "ar", ?_⟩
    generalize (z1 % 1000000000000000000000000000000000000000063 + 67867967 * (c + 1)) ^ 3 = z2
    exact ⟨by walk_at "ar", by omega, q _ _ (Int.emod_nonneg _ (by omega)) (Int.emod_lt_of_pos _ (by omega)) Mo.upd ⟨_, _, _, upd_same, ha, hb, hb2, by omega, by omega⟩⟩
def chz (s r : Int) : Int := if r < 0 then 0 else (R s.toNat r.toNat : Nat)
theorem chz_R {s r : Nat} : chz s r = (R s r : Nat) := by
  unfold chz
  rw [if_neg (by omega)]
  rfl
theorem choose_turn {s r i : Nat} (h : i < s + r) : ((R i (s + r - i) : Nat) : Int) * ((s : Int) + (r : Int) - (i : Int)) / ((i : Int) + 1) = ((R (i + 1) (s + r - (i + 1)) : Nat) : Int) := by
  have h2 := R_turn h
  have e : ((R i (s + r - i) : Nat) : Int) * ((s : Int) + (r : Int) - (i : Int)) = ((R (i + 1) (s + r - (i + 1)) : Nat) : Int) * ((i : Int) + 1) := by
    have e1 : (s : Int) + (r : Int) - (i : Int) = ((s + r - i : Nat) : Int) := by omega
    rw [e1, show ((i : Int) + 1) = ((i + 1 : Nat) : Int) by omega, ← Int.natCast_mul, ← Int.natCast_mul, h2]
  rw [e]
  exact Int.mul_ediv_cancel _ (by omega)
def sp_L_choose (K : PySem.W.Frag) : Sp := sp2 fun a b H Q _ => ∃ (s r : Int), a = .int s ∧ b = .int r ∧ 0 ≤ s ∧ s ≤ 101 ∧ -1 ≤ r ∧ r ≤ 2 ^ 110 ∧ Q (.int (chz s r)) H
theorem sc_L_choose : FnScope ["_law_slots", "_law_rounds_here", "_law_found", "_law_turn"] ["_law_slots", "_law_rounds_here"] (defScope s_L_choose) := ⟨rfl, rfl, rfl, by decide +kernel, rfl, by decide +kernel, by decide +kernel⟩
theorem ok_L_choose (T : Txt P w K mg base) : GOk P w K mg base (L2.CX P w) 1 T.a_L_choose T.fd_L_choose ["_law_slots", "_law_rounds_here"] (sp_L_choose K) := by
  refine FunD.gok T.F_L_choose sc_L_choose (fun vs H Q E h => ar2 h) (fun cdv A fr s H vs Q E hr hc h => ⟨_, PSs.nox (pss_cons (ps_set (i := 2) sc_L_choose.nd rfl (.inl rfl) pe_int) (pss_cons (ps_for PassesOwn.never rfl (pi_range1 (by rfl) T.n_range (pa_cons (pe_callB (call_min2 rfl) (by rfl) T.n_min (by decide +kernel) (pa_cons (pv 0) (pa_cons (pe_callB (call_max2 rfl) (by rfl) T.n_max (by decide +kernel) (pa_cons (pv 1) (pa_cons pe_int pa_nil))) pa_nil))) pa_nil)) (pg_name (i := 3) sc_L_choose.nd rfl (.inl rfl)) (pss_one (ps_set (i := 2) sc_L_choose.nd rfl (.inl rfl) (pe_op op_divB (pe_op op_mulB (pv 2) (pe_op op_sub (pe_op op_add (pv 0) (pv 1)) (pv 3))) (pe_op op_add (pv 3) pe_int))))) (pss_one (ps_ret (pe_ifExp (pt_cmpR op_ge (pv 1) pe_int (nomark _)) (pv 2) pe_int))))), ?_⟩)
  obtain ⟨_, _, rfl, s, r, rfl, rfl, h1, h2, h3, h4, q⟩ := h
  walk_at "rd"
  obtain ⟨S, rfl⟩ := Int.eq_ofNat_of_zero_le h1
  obtain ⟨N, hN⟩ : ∃ N : Nat, N = r.toNat := ⟨_, rfl⟩
  apply for_rng1 (min S N) (Pv := fun i σ H' => H' = H ∧ ∃ x, σ = [some (.int S), some (.int r), some (.int (R i (S + N - i) : Nat)), x])
  · intro R q
    walk_at "rd"
    exact q
  · split <;> split <;> omega
  · split <;> split <;> omega
  · exact ⟨rfl, none, by rw [R_0]; rfl⟩
  · rintro σ H' ⟨rfl, x, rfl⟩
    walk_at "rd"
    refine ite2 (fun h => ?_) (fun h => ?_)
    · have e : r = (N : Int) := by omega
      have e2 : chz (S : Int) r = (R S N : Nat) := by rw [e]; exact chz_R
      rw [e2] at q
      have e3 : R (min S N) (S + N - min S N) = R S N := by
        rcases Nat.le_total S N with hl | hl
        · rw [Nat.min_eq_left hl, show S + N - S = N by omega]
        · rw [Nat.min_eq_right hl, show S + N - N = S by omega, R_comm]
      rw [e3]
      exact q
    · have e2 : chz (S : Int) r = 0 := by unfold chz; rw [if_pos (by omega)]
      rw [e2] at q
      exact q
  · rintro i σ H' hi ⟨rfl, x, rfl⟩
    walk_at "rd"
    have hB := big_200
    have b1 : ((R i (S + N - i) : Nat) : Int) < BIG := by
      have h := R_le i (S + N - i)
      have h5 : (((S + N - i + 1) ^ i : Nat) : Int) < BIG := big_pow (a := 113) (b := 102) (by decide) (by omega) (by omega)
      omega
    have e : r = (N : Int) := by omega
    subst e
    refine ⟨by walk_at "ar", by walk_at "ar", ?_⟩
    exact choose_turn (by omega)
def sp_L_great (K : PySem.W.Frag) : Sp := sp1 fun x H Q _ => ∃ (r : Addr) (m : Int), x = .ref r ∧ Reel H r m ∧ m ≤ 10 ^ 50 ∧ ∀ (n s : Int) p H', 1 ≤ n → n ≤ 10 ^ 30 → 1 ≤ s → s ≤ 100 → Mo r H H' → Reel H' r (m + 8) → H p = none → p ≠ r → H' p = some (.tup [.int n, .int s]) → Q (.ref p) H'
theorem sc_L_great : FnScope ["_law_reel", "_law_slots", "_law_edge", "_law_some"] ["_law_reel"] (defScope s_L_great) := ⟨rfl, rfl, rfl, by decide +kernel, rfl, by decide +kernel, by decide +kernel⟩
theorem ok_L_great (T : Txt P w K mg base) : GOk P w K mg base (L2.CX P w) 2 T.a_L_great T.fd_L_great ["_law_reel"] (sp_L_great K) := by
  refine FunD.gok T.F_L_great sc_L_great (fun vs H Q E h => ar1 h) (fun cdv A fr s H vs Q E hr hc h => ⟨_, PSs.nox (pss_cons (ps_set (i := 1) sc_L_great.nd rfl (.inl rfl) (pe_op op_add pe_int (pe_callG (ok_L_spin T) hr hc (by rfl) T.g_L_spin T.F_L_spin.kp T.b_L_spin .nil passL (pa_cons (pv 0) (pa_cons (pe_ix ix_listT (pe_lst (pa_cons pe_int (pa_cons pe_int pa_nil))) (pe_callG (ok_L_spin T) hr hc (by rfl) T.g_L_spin T.F_L_spin.kp T.b_L_spin .nil passL (pa_cons (pv 0) (pa_cons pe_int pa_nil))) (fun _ _ => rfl)) pa_nil))))) (pss_cons (ps_set (i := 2) sc_L_great.nd rfl (.inl rfl) (pe_callB (call_min2 rfl) (by rfl) T.n_min (by decide +kernel) (pa_cons (pe_op op_sub (pe_op op_powC pe_int pe_int) pe_int) (pa_cons (pe_callG (ok_L_choose T) hr hc (by rfl) T.g_L_choose T.F_L_choose.kp T.b_L_choose .nil passL (pa_cons (pv 1) (pa_cons (pe_callG (ok_L_spin T) hr hc (by rfl) T.g_L_spin T.F_L_spin.kp T.b_L_spin .nil passL (pa_cons (pv 0) (pa_cons (pe_ix ix_listT (pe_lst (pa_cons pe_int (pa_cons pe_int pa_nil))) (pe_callG (ok_L_spin T) hr hc (by rfl) T.g_L_spin T.F_L_spin.kp T.b_L_spin .nil passL (pa_cons (pv 0) (pa_cons pe_int pa_nil))) (fun _ _ => rfl)) pa_nil))) pa_nil))) pa_nil)))) (pss_cons (ps_set (i := 3) sc_L_great.nd rfl (.inl rfl) (pe_lst (pa_cons (pe_op op_add pe_int (pe_callG (ok_L_spin T) hr hc (by rfl) T.g_L_spin T.F_L_spin.kp T.b_L_spin .nil passL (pa_cons (pv 0) (pa_cons (pe_op op_powC pe_int pe_int) pa_nil)))) (pa_cons (pe_op op_add pe_int (pe_callG (ok_L_spin T) hr hc (by rfl) T.g_L_spin T.F_L_spin.kp T.b_L_spin .nil passL (pa_cons (pv 0) (pa_cons (pe_op op_powC pe_int pe_int) pa_nil)))) (pa_cons (pe_callB (call_max2 rfl) (by rfl) T.n_max (by decide +kernel) (pa_cons pe_int (pa_cons (pe_op op_add (pe_op op_sub (pv 2) pe_int) (pe_callG (ok_L_spin T) hr hc (by rfl) T.g_L_spin T.F_L_spin.kp T.b_L_spin .nil passL (pa_cons (pv 0) (pa_cons pe_int pa_nil)))) pa_nil))) pa_nil))))) (pss_one (ps_ret (pe_tup (pa_cons (pe_ix ix_listT (pv 3) (pe_callG (ok_L_spin T) hr hc (by rfl) T.g_L_spin T.F_L_spin.kp T.b_L_spin .nil passL (pa_cons (pv 0) (pa_cons pe_int pa_nil))) (fun _ _ => rfl)) (pa_cons (pv 1) pa_nil)))))))), ?_⟩)
  obtain ⟨_, rfl, r, m, rfl, hR, hm, q⟩ := h
  walk_at "rd"
  unfold sp_L_choose sp_L_spin
  walk_at "rd"
  intro p hp
  have np := hR.ne hp
  refine ⟨m, hR.ex (exn hp), by omega, fun z H1 z0 z1 o1 R1 => ?_⟩
  obtain ⟨x, hx, x1, x2⟩ : ∃ x : Int, atI [V.int 4, V.int 100] z = some (.int x) ∧ 1 ≤ x ∧ x ≤ 100 := by
    rcases (by omega : z = 0 ∨ z = 1) with rfl | rfl
    · exact ⟨4, atI_0, by decide, by decide⟩
    · exact ⟨100, atI_1, by decide, by decide⟩
  refine ⟨_, o1 p _ np upd_same, _, hx, _, rfl, m + 1, R1, by omega, by omega, by omega, fun s0 H2 s1 s2 o2 R2 p2 hp2 => ?_⟩
  have np2 := R2.ne hp2
  refine ⟨m + 1 + 1, R2.ex (exn hp2), by omega, fun z H3 z0 z1 o3 R3 => ?_⟩
  obtain ⟨y, hy, y1, y2⟩ : ∃ x : Int, atI [V.int 9, V.int 60] z = some (.int x) ∧ 1 ≤ x ∧ x ≤ 100 := by
    rcases (by omega : z = 0 ∨ z = 1) with rfl | rfl
    · exact ⟨9, atI_0, by decide, by decide⟩
    · exact ⟨60, atI_1, by decide, by decide⟩
  refine ⟨_, o3 p2 _ np2 upd_same, _, hy, _, rfl, m + 1 + 1 + 1, R3, by omega, by omega, by omega, fun r0 H4 r1 r2 o4 R4 => ?_⟩
  have c0 : 0 ≤ chz (1 + s0) r0 := by unfold chz; split <;> omega
  generalize chz (1 + s0) r0 = edge at *
  refine ⟨by omega, by omega, by omega, by omega, m + 1 + 1 + 1 + 1, R4, by omega, fun a H5 a1 a2 o5 R5 => ?_⟩
  refine ⟨m + 1 + 1 + 1 + 1 + 1, R5, by omega, fun b H6 b1 b2 o6 R6 => ?_⟩
  refine ⟨m + 1 + 1 + 1 + 1 + 1 + 1, R6, by omega, fun c H7 c1 c2 o7 R7 p3 hp3 => ?_⟩
  have np3 := R7.ne hp3
  refine ⟨m + 1 + 1 + 1 + 1 + 1 + 1 + 1, R7.ex (exn hp3), by omega, fun d H8 d1 d2 o8 R8 => ?_⟩
  refine ⟨_, o8 p3 _ np3 upd_same, ?_⟩
  generalize hu : (if (1 : Int) < _ then _ else _) = u
  have u1 : 1 ≤ u ∧ u ≤ 10 ^ 30 := by
    rw [← hu]
    split <;> split at * <;> omega
  obtain ⟨n, hn, n1, n2⟩ : ∃ n : Int, atI [V.int (1 + a), V.int (1 + b), V.int u] d = some (.int n) ∧ 1 ≤ n ∧ n ≤ 10 ^ 30 := by
    rcases (by omega : d = 0 ∨ d = 1 ∨ d = 2) with rfl | rfl | rfl
    · exact ⟨_, atI_0, by omega, by omega⟩
    · exact ⟨_, atI_1, by omega, by omega⟩
    · exact ⟨_, atI_2, u1.1, u1.2⟩
  refine ⟨_, hn, fun p4 hp4 => ?_⟩
  have np4 := R8.ne hp4
  have o : Mo r H (upd H8 p4 (.tup [.int n, .int (1 + s0)])) := (((Ex.to_mo (exn hp) o1).trans o2).trans (Ex.to_mo (exn hp2) o3)).trans (((o4.trans o5).trans o6).trans (o7.trans ((Ex.to_mo (exn hp3) o8).trans (Mo.ex (exn hp4)))))
  refine q n (1 + s0) p4 _ n1 n2 (by omega) (by omega) o ((R8.ex (exn hp4)).up (by omega)) ?_ np4 upd_same
  cases e : H p4 with
  | none => rfl
  | some w =>
    have e2 : Mo r H H8 := (((Ex.to_mo (exn hp) o1).trans o2).trans (Ex.to_mo (exn hp2) o3)).trans (((o4.trans o5).trans o6).trans (o7.trans (Ex.to_mo (exn hp3) o8)))
    rw [e2 p4 w np4 e] at hp4
    cases hp4
theorem chz_Rz {s r : Int} (hs : 1 ≤ s) (hr : -1 ≤ r) : chz s r = Rz s r := by
  unfold chz Rz
  split
  · rw [if_neg (by omega)]
  · rfl
def sp_L_rounds (K : PySem.W.Frag) : Sp := sp2 fun a b H Q _ => ∃ (n s : Int), a = .int n ∧ b = .int s ∧ 1 ≤ n ∧ n ≤ 10 ^ 30 ∧ 1 ≤ s ∧ s ≤ 101 ∧ ∀ H', Ex H H' → Q (.int (rho n s)) H'
theorem sc_L_rounds : FnScope ["_law_length", "_law_slots", "_law_low", "_law_high", "_law_middle"] ["_law_length", "_law_slots"] (defScope s_L_rounds) := ⟨rfl, rfl, rfl, by decide +kernel, rfl, by decide +kernel, by decide +kernel⟩
theorem ok_L_rounds (T : Txt P w K mg base) : GOk P w K mg base (L2.CX P w) 2 T.a_L_rounds T.fd_L_rounds ["_law_length", "_law_slots"] (sp_L_rounds K) := by
  refine FunD.gok T.F_L_rounds sc_L_rounds (fun vs H Q E h => ar2 h) (fun cdv A fr s H vs Q E hr hc h => ⟨_, PSs.nox (pss_cons (ps_asg (pe_tup (pa_cons (pe_un un_neg pe_int) (pa_cons pe_int pa_nil))) (pg_tupT (n := 2) rfl (pgs_cons (pg_name (i := 2) sc_L_rounds.nd rfl (.inl rfl)) (pgs_cons (pg_name (i := 3) sc_L_rounds.nd rfl (.inl rfl)) pgs_nil)))) (pss_cons (ps_while PassesOwn.never (pt_cmpR op_lt (pe_callG (ok_L_choose T) hr hc (by rfl) T.g_L_choose T.F_L_choose.kp T.b_L_choose .nil passL (pa_cons (pv 1) (pa_cons (pv 3) pa_nil))) (pv 0) (nomark _)) (pss_one (ps_par (i := 2) (j := 3) (by rfl) sc_L_rounds.nd rfl rfl (by decide) rfl rfl (pa_cons (pv 3) (pa_cons (pe_op op_mulB pe_int (pv 3)) pa_nil)) (by rfl)))) (pss_cons (ps_while PassesOwn.never (pt_cmpR op_gt (pe_op op_sub (pv 3) (pv 2)) pe_int (nomark _)) (pss_cons (ps_set (i := 4) sc_L_rounds.nd rfl (.inl rfl) (pe_op op_divB (pe_op op_add (pv 2) (pv 3)) pe_int)) (pss_one (ps_if (pt_cmpR op_lt (pe_callG (ok_L_choose T) hr hc (by rfl) T.g_L_choose T.F_L_choose.kp T.b_L_choose .nil passL (pa_cons (pv 1) (pa_cons (pv 4) pa_nil))) (pv 0) (nomark _)) (pss_one (ps_set (i := 2) sc_L_rounds.nd rfl (.inl rfl) (pv 4))) (pss_one (ps_set (i := 3) sc_L_rounds.nd rfl (.inl rfl) (pv 4))))))) (pss_one (ps_ret (pv 3)))))), ?_⟩)
  obtain ⟨_, _, rfl, n, s, rfl, rfl, h1, h2, h3, h4, q⟩ := h
  walk_at "rd"
  intro p hp
  refine ⟨fun m σ H' => Ex H H' ∧ ∃ low high x, σ = [some (.int n), some (.int s), some (.int low), some (.int high), x] ∧ -1 ≤ low ∧ low < high ∧ 1 ≤ high ∧ high ≤ 2 * n ∧ Rz s low < n ∧ m = (2 * n - high).toNat,
    ⟨_, exn hp, -1, 1, _, rfl, by omega, by omega, by omega, by omega, by rw [Rz_neg (by omega)]; omega, rfl⟩, ?_⟩
  rintro m σ H' ⟨eH, low, high, x, rfl, l1, l2, l3, l4, l5, rfl⟩
  walk_at "rd"
  unfold sp_L_choose
  walk_at "rd"
  refine ⟨by omega, by omega, by omega, by omega, ?_⟩
  rw [chz_Rz (by omega) (by omega)]
  refine ite2 (fun hlt => ?_) (fun hge => ?_)
  · have hg := Rz_gt (s := s) (r := high) h3 (by omega)
    refine ⟨fun σ' H'' => H'' = H' ∧ ∃ low' high' x', σ' = [some (.int n), some (.int s), some (.int low'), some (.int high'), x'] ∧ -1 ≤ low' ∧ low' < high' ∧ 1 ≤ high' ∧ high' ≤ 2 * n ∧ Rz s low' < n ∧ high < high',
      fun σ' H'' ⟨e, low', high', x', e1, e2, e3, e4, e5, e6, e7⟩ => ⟨_, ?_, by rw [e]; exact eH, low', high', x', e1, e2, e3, e4, e5, e6, rfl⟩, ?_, ?_⟩
    · omega
    · unfold CMulB; have hB := big_200; omega
    · refine ⟨rfl, high, 2 * high, x, rfl, by omega, by omega, by omega, by omega, hlt, by omega⟩
  · refine ⟨fun m σ H'' => H'' = H' ∧ ∃ low high x, σ = [some (.int n), some (.int s), some (.int low), some (.int high), x] ∧ -1 ≤ low ∧ low < high ∧ high ≤ 2 * n ∧ Rz s low < n ∧ n ≤ Rz s high ∧ m = (high - low).toNat,
      ⟨_, rfl, low, high, x, rfl, l1, l2, l4, l5, by omega, rfl⟩, ?_⟩
    rintro m σ H'' ⟨rfl, low, high, x, rfl, l1, l2, l4, l5, l6, rfl⟩
    walk_at "rd"
    refine ite2 (fun hlt => ?_) (fun hge => ?_)
    · refine ⟨fun σ' H' => H' = H'' ∧ ∃ low' high' x', σ' = [some (.int n), some (.int s), some (.int low'), some (.int high'), x'] ∧ -1 ≤ low' ∧ low' < high' ∧ high' ≤ 2 * n ∧ Rz s low' < n ∧ n ≤ Rz s high' ∧ high' - low' < high - low,
        fun σ' H' ⟨e, low', high', x', e1, e2, e3, e5, e6, e7, e8⟩ => ⟨_, ?_, e, low', high', x', e1, e2, e3, e5, e6, e7, rfl⟩, ?_⟩
      · omega
      · unfold CDivB
        refine ⟨by omega, by omega, by omega, by omega, by omega, ?_⟩
        rw [chz_Rz (by omega) (by omega)]
        refine ite2 (fun h => ?_) (fun h => ?_)
        · exact ⟨rfl, (low + high) / 2, high, _, rfl, by omega, by omega, by omega, h, l6, by omega⟩
        · exact ⟨rfl, low, (low + high) / 2, _, rfl, by omega, by omega, by omega, l5, by omega, by omega⟩
    · have e : rho n s = high := rho_eq h1 h3 (by omega) l6 (by rw [show high - 1 = low by omega]; exact l5)
      rw [e] at q
      exact q _ eH
/-! ### the table by the recurrence -/
def tt (n s : Nat) : Int := if n = 0 then 0 else tz n s
def rowV (s n : Nat) : List Int := (List.range n).map fun k => tt k s
def rowD (s n : Nat) : PyData := .list ((rowV s n).map PyData.int)
def tabD (k n : Nat) : List PyData := .list [] :: (List.range k).map fun i => rowD (i + 1) n
theorem rowV_at {s n k : Nat} (h : k < n) : ((rowV s n).map V.int)[k]? = some (.int (tt k s)) := by
  unfold rowV
  rw [List.map_map, List.getElem?_map, List.getElem?_range h]
  rfl
theorem rowV_len {s n : Nat} : (rowV s n).length = n := by unfold rowV; rw [List.length_map, List.length_range]
theorem rowV_succ {s n : Nat} : rowV s (n + 1) = rowV s n ++ [tt n s] := by unfold rowV; rw [List.range_succ, List.map_append]; rfl
theorem tabD_at {k n i : Nat} (h : i < k) : (tabD k n)[i + 1]? = some (rowD (i + 1) n) := by
  unfold tabD
  rw [List.getElem?_cons_succ, List.getElem?_map, List.getElem?_range h]
  rfl
theorem tabD_succ {k n : Nat} : tabD (k + 1) n = tabD k n ++ [rowD (k + 1) n] := by unfold tabD; rw [List.range_succ, List.map_append]; rfl
theorem tt_one (s : Nat) (h : 1 ≤ s) : tt 1 s = 0 := by unfold tt; rw [if_neg (by decide)]; exact tz_one (by omega)
theorem tt_slot1 (n : Nat) : (n : Int) * ((n : Int) - 1) / 2 = tt n 1 := by
  unfold tt
  by_cases h : n = 0
  · subst h; rfl
  · rw [if_neg h]
    have := tz_slot1 (n := (n : Int)) (by omega)
    have e : (n : Int) * ((n : Int) - 1) = tz n 1 * 2 := by rw [← this, Int.mul_comm]
    rw [e]
    exact Int.mul_ediv_cancel _ (by decide)
/-- the splits of n states, s slots: what they cost -/
def splitV (n s : Nat) : List Int := (List.range (n - 1)).map fun (i : Nat) => 1 + (i : Int) + tt (n - (i + 1)) (s - 1) + tt (i + 1) s
theorem splitV_min {n s : Nat} (hn : 2 ≤ n) (hs : 2 ≤ s) {m : Int} (h1 : m ∈ splitV n s) (h2 : ∀ y, y ∈ splitV n s → m ≤ y) : m = tt n s := by
  have e : tt n s = tz n s := by unfold tt; rw [if_neg (by omega)]
  have cost : ∀ i : Nat, i < n - 1 → 1 + (i : Int) + tt (n - (i + 1)) (s - 1) + tt (i + 1) s = fz n s (i + 1 : Nat) := fun i hi => by
    unfold fz tt
    rw [if_neg (by omega), if_neg (by omega), show ((n - (i + 1) : Nat) : Int) = (n : Int) - ((i + 1 : Nat) : Int) by omega, show ((s - 1 : Nat) : Int) = (s : Int) - 1 by omega]
    omega
  rw [e]
  refine Int.le_antisymm ?_ ?_
  · obtain ⟨k, k1, k2, kb⟩ := best_is (n := (n : Int)) (s := (s : Int)) (by omega) (by omega)
    have hk : k = ((k.toNat - 1 + 1 : Nat) : Int) := by omega
    have := h2 (fz n s k) (by
      unfold splitV
      refine List.mem_map.mpr ⟨k.toNat - 1, List.mem_range.mpr (by omega), ?_⟩
      rw [cost _ (by omega), ← hk])
    rw [tz_best (by omega) k1 k2 kb] at this
    exact this
  · unfold splitV at h1
    obtain ⟨i, hi, rfl⟩ := List.mem_map.mp h1
    have hi2 := List.mem_range.mp hi
    rw [cost i hi2]
    exact tz_le_fz (by omega) (by omega) (by omega)
def sp_L_table (K : PySem.W.Frag) : Sp := sp2 fun a b H Q _ => ∃ (n s : Nat), a = .int n ∧ b = .int s ∧ 2 ≤ n ∧ n ≤ 200 ∧ 1 ≤ s ∧ s ≤ 100 ∧ ∀ v H', Ex H H' → Rp H' (New H) v (.list (tabD s (n + 1))) → Q v H'
theorem sc_L_table : FnScope ["_law_most", "_law_slots", "_law_n", "_law_found", "_law_s", "_law_line", "_law_m"] ["_law_most", "_law_slots"] (defScope s_L_table) := ⟨rfl, rfl, rfl, by decide +kernel, rfl, by decide +kernel, by decide +kernel⟩
theorem ok_L_table (T : Txt P w K mg base) : GOk P w K mg base (L2.CX P w) 1 T.a_L_table T.fd_L_table ["_law_most", "_law_slots"] (sp_L_table K) := by
  refine FunD.gok T.F_L_table sc_L_table (fun vs H Q E h => ar2 h) (fun cdv A fr s H vs Q E hr hc h => ⟨_, PSs.nox (pss_cons (ps_set (i := 3) sc_L_table.nd rfl (.inr rfl) (pe_lst (pa_cons (pe_lst pa_nil) (pa_cons (pe_lc (own := [("_law_n", 2)]) rfl sc_L_table.nd (pi_range1 (by rfl) T.n_range (pa_cons (pe_op op_add (pv 0) pe_int) pa_nil)) (blkOk_by (N := ["_law_most", "_law_slots", "_law_n", "_law_found", "_law_s", "_law_line", "_law_m"]) (sc := defScope s_L_table) (by decide +kernel)) (fun _ _ _ _ _ => (pg_name (i := 2) sc_L_table.nd rfl (Or.inl rfl))) (fun _ _ _ _ _ => pts_nil) (fun _ _ _ _ _ => (pe_op op_divB (pe_op op_mulB (pv 2) (pe_op op_sub (pv 2) pe_int)) pe_int))) pa_nil)))) (pss_cons (ps_for PassesOwn.never rfl (pi_range2 (by rfl) T.n_range (pa_cons pe_int (pa_cons (pe_op op_add (pv 1) pe_int) pa_nil))) (pg_name (i := 4) sc_L_table.nd rfl (.inr rfl)) (pss_cons (ps_set (i := 5) sc_L_table.nd rfl (.inr rfl) (pe_lst (pa_cons pe_int (pa_cons pe_int pa_nil)))) (pss_cons (ps_for PassesOwn.never rfl (pi_range2 (by rfl) T.n_range (pa_cons pe_int (pa_cons (pe_op op_add (pv 0) pe_int) pa_nil))) (pg_name (i := 2) sc_L_table.nd rfl (.inr rfl)) (pss_one (ps_expr (pe_bm PySem.F.plainAttrs_list PySem.F.slot_list_append PySem.F.type_list_append mt_append (pv 5) (pa_cons (pe_callB (r := rMin K) (cr_min rfl) (by rfl) T.n_min (by decide +kernel) (pa_cons (pe_lc (own := [("_law_m", 6)]) rfl sc_L_table.nd (pi_range2 (by rfl) T.n_range (pa_cons pe_int (pa_cons (pv 2) pa_nil))) (blkOk_by (N := ["_law_most", "_law_slots", "_law_n", "_law_found", "_law_s", "_law_line", "_law_m"]) (sc := defScope s_L_table) (by decide +kernel)) (fun _ _ _ _ _ => (pg_name (i := 6) sc_L_table.nd rfl (Or.inl rfl))) (fun _ _ _ _ _ => pts_nil) (fun _ _ _ _ _ => (pe_op op_add (pe_op op_add (pv 6) (pe_ix (r := rIxL K) ix_list (pe_ix (r := rIxL K) ix_list (pv 3) (pe_op op_sub (pv 4) pe_int) (fun _ _ => rfl)) (pe_op op_sub (pv 2) (pv 6)) (fun _ _ => rfl))) (pe_ix (r := rIxL K) ix_list (pv 5) (pv 6) (fun _ _ => rfl))))) pa_nil)) pa_nil))))) (pss_one (ps_expr (pe_bm PySem.F.plainAttrs_list PySem.F.slot_list_append PySem.F.type_list_append mt_append (pv 3) (pa_cons (pv 5) pa_nil))))))) (pss_one (ps_ret (pv 3))))), ?_⟩)
  obtain ⟨_, _, rfl, n, s, rfl, rfl, h1, h2, h3, h4, q⟩ := h
  walk_at "rd"
  intro p0 hp0
  have e0 := exn (o := .lst []) hp0
  refine lc_rng (n := n + 1) (fun i => .int (tt i 1)) (fun R q => by walk_at "rd"; rw [show ((n + 1 : Nat) : Int) = (n : Int) + 1 by omega] at q; exact q) (by omega) (fun _ => rfl) ?_ ?_
  · intro i H1 hi e1 Rr hR
    simp only [wipe]
    walk_at "rd"
    refine ⟨by walk_at "ar", by walk_at "ar", ?_⟩
    rw [tt_slot1]
    exact hR _ _ (Evl.Ex.refl _) (.int _)
  · intro v1 H1 e1 hv1 F hF
    have hv1' : Rp H1 (New (upd H p0 (.lst []))) v1 (rowD 1 (n + 1)) := by
      unfold rowD rowV
      rw [List.map_map]
      exact hv1
    have hF0 : H F = none := Evl.fresh_back (e0.trans e1) hF
    have nF : p0 ≠ F := ne_of_none (e1 _ _ upd_same) hF
    have eF : Ex H (upd H1 F (.lst [.ref p0, v1])) := (e0.trans e1).trans (exn hF)
    have start : RpA (upd H1 F (.lst [.ref p0, v1])) (fun b => New H b ∧ b ≠ F) [.ref p0, v1] (tabD 1 (n + 1)) := by
      have kp : ∀ (b : Addr) (o : HO), H1 b = some o → upd H1 F (.lst [.ref p0, v1]) b = some o := fun b o hb => exn hF b o hb
      refine .cons (.lst ⟨hp0, nF⟩ (kp _ _ (e1 _ _ upd_same)) .nil) (.cons ?_ .nil)
      exact (hv1'.off hF).keep (fun b o _ hb => kp b o hb) fun b hb => ⟨Evl.fresh_back e0 hb.1, hb.2⟩
    refine for_rng2 (lo := 2) (hi := (s : Int) + 1) (s - 1) (fun R q => by walk_at "rd"; exact q) (by omega) (by omega)
      (fun i σ H' => Ex H H' ∧ (∃ ys, H' F = some (.lst ys) ∧ RpA H' (fun b => New H b ∧ b ≠ F) ys (tabD (i + 1) (n + 1))) ∧ ∃ x y z u, σ = [some (.int n), some (.int s), x, some (.ref F), y, z, u])
      ⟨eF, ⟨_, upd_same, start⟩, _, _, _, _, rfl⟩ ?_ ?_
    · rintro σ H2 ⟨e2, ⟨ys, hys, r2⟩, x, y, z, u, rfl⟩
      walk_at "rd"
      rw [show s - 1 + 1 = s by omega] at r2
      exact q _ _ e2 (.lst hF0 hys (r2.sub fun b q => q.1))
    · rintro i σ H2 hi ⟨e2, ⟨ys, hys, r2⟩, x, y, z, u, rfl⟩
      walk_at "rd"
      intro L hL
      have fL : L ≠ F := (ne_of_none hys hL).symm
      have row0 : H2 L = none → (upd H2 L (.lst [.int 0, .int 0])) L = some (.lst ((rowV (i + 2) 2).map V.int)) := fun _ => by
        rw [upd_same]
        have : rowV (i + 2) 2 = [0, 0] := by
          show [tt 0 (i + 2), tt 1 (i + 2)] = [0, 0]
          rw [tt_one _ (by omega)]
          rfl
        rw [this]
        rfl
      refine for_rng2 (lo := 2) (hi := (n : Int) + 1) (n - 1) (fun R q => by walk_at "rd"; exact q) (by omega) (by omega)
        (fun j σ H' => Ex H2 H' ∧ H' L = some (.lst ((rowV (i + 2) (j + 2)).map V.int)) ∧ ∃ y u, σ = [some (.int n), some (.int s), y, some (.ref F), some (.int (2 + (i : Int))), some (.ref L), u])
        ⟨exn hL, row0 hL, _, _, rfl⟩ ?_ ?_
      · rintro σ H3 ⟨e3, h3, y, u, rfl⟩
        walk_at "rd"
        have hF3 := e3 _ _ hys
        have r3 := (r2.off hL).ex e3
        refine ⟨⟨_, sq_l hF3⟩, _, hF3, ?_, Mo.ex_new (e2.trans e3) hF0 Mo.upd, ?_⟩
        · rw [r2.len]; unfold tabD; rw [List.length_cons, List.length_map, List.length_range]; omega
        · rw [show n - 1 + 2 = n + 1 by omega] at h3
          rw [tabD_succ]
          have keep : ∀ (b : Addr) (o : HO), (New H b ∧ b ≠ F) → H3 b = some o → (upd H3 F (.lst (ys ++ [.ref L]))) b = some o := fun b o m q => by rw [upd_ne m.2]; exact q
          refine RpA.app ((r3.sub fun b q => q.1).keep keep fun _ q => q) (.cons (.lst ⟨Evl.fresh_back e2 hL, fL⟩ (keep _ _ ⟨Evl.fresh_back e2 hL, fL⟩ h3) .ints) .nil)
      · rintro j σ H3 hj ⟨e3, h3, y, u, rfl⟩
        walk_at "rd"
        refine ⟨⟨_, sq_l h3⟩, ?_⟩
        refine lc_rng2 (lo := 1) (n := j + 1) (fun k => .int (1 + (k : Int) + tt (j + 2 - (k + 1)) (i + 1) + tt (k + 1) (i + 2))) (fun R q => by walk_at "rd"; rw [show 1 + ((j + 1 : Nat) : Int) = 2 + (j : Int) by omega] at q; exact q) (by omega) (by omega) (fun _ => rfl) ?_ ?_
        · intro k H4 hk e4 Rr hR
          simp only [wipe]
          walk_at "rd"
          obtain ⟨v1, hv1, rv1⟩ := (r2.ex (e3.trans e4)).at (tabD_at (k := i + 1) (n := n + 1) (i := i) (by omega))
          obtain ⟨b, rfl, _, hb⟩ := rv1.ints
          refine ⟨_, sq_l ((e3.trans e4) _ _ hys), _, atI_of (j := i + 1) (by omega) hv1, ?_⟩
          walk_at "rd"
          refine ⟨_, sq_l hb, _, atI_of (j := j + 2 - (k + 1)) (by omega) (rowV_at (by omega)), ?_⟩
          walk_at "rd"
          refine ⟨_, sq_l (e4 _ _ h3), _, atI_of (j := k + 1) (by omega) (rowV_at (by omega)), ?_⟩
          walk_at "rd"
          exact hR _ _ (Evl.Ex.refl _) (.int _)
        · intro v4 H4 e4 hv4
          have hv4' : Rp H4 (New H3) v4 (.list ((splitV (j + 2) (i + 2)).map PyData.int)) := by
            unfold splitV
            rw [List.map_map]
            exact hv4
          obtain ⟨b, rfl, _, hb⟩ := hv4'.ints
          refine ⟨b, rfl, _, sq_l hb, ?_, fun m m1 m2 => ?_⟩
          · unfold splitV; rw [List.length_map, List.length_range]; omega
          · have := splitV_min (n := j + 2) (s := i + 2) (by omega) (by omega) m1 m2
            subst this
            refine ⟨_, e4 _ _ h3, by rw [List.length_map, rowV_len]; omega, Mo.ex_new (e3.trans e4) hL Mo.upd, ?_⟩
            rw [show j + 1 + 2 = j + 2 + 1 by omega, rowV_succ (n := j + 2), List.map_append]
            rfl
/-! ### how many steps are done how often -/
theorem gok_no {P : Program} {w : World} {K : PySem.W.Frag} {mg : Str → Option Value} {base : Heap} {C : CXT} {k : Nat} {f : Addr} {fd : FuncData} {ps : List Str} {sp : Sp} (h : ∀ vs H Q E, ¬ sp vs H Q E) : GOk P w K mg base C k f fd ps sp :=
  ⟨fun vs H Q E q => absurd q (h vs H Q E), fun A fr s H args us vs Q E _ _ _ _ _ q => absurd q (h vs H Q E)⟩
theorem splitV_at {n s i : Nat} (h : i < n - 1) : (splitV n s)[i]? = some (1 + (i : Int) + tt (n - (i + 1)) (s - 1) + tt (i + 1) s) := by
  unfold splitV
  rw [List.getElem?_map, List.getElem?_range h]
  rfl
theorem splitV_fz {n s i : Nat} (hn : 2 ≤ n) (hs : 2 ≤ s) (hi : i < n - 1) : 1 + (i : Int) + tt (n - (i + 1)) (s - 1) + tt (i + 1) s = fz n s (i + 1 : Nat) := by
  unfold fz tt
  rw [if_neg (by omega), if_neg (by omega), show ((n - (i + 1) : Nat) : Int) = (n : Int) - ((i + 1 : Nat) : Int) by omega, show ((s - 1 : Nat) : Int) = (s : Int) - 1 by omega]
  omega
def pD (p : Int × Int) : PyData := .tuple [.int p.1, .int p.2]
theorem pD_rp {H : Hp} {S : Addr → Prop} {a : Addr} {p : Int × Int} (m : S a) (h : H a = some (.tup [.int p.1, .int p.2])) : Rp H S (.ref a) (pD p) := .tup m h (.cons (.int _) (.cons (.int _) .nil))
theorem rp_pD {H : Hp} {S : Addr → Prop} {v : V} {p : Int × Int} (h : Rp H S v (pD p)) : ∃ a, v = .ref a ∧ S a ∧ H a = some (.tup [.int p.1, .int p.2]) := by
  cases h with
  | tup m e r => cases r with | cons r1 r => cases r1; cases r with | cons r1 r => cases r1; cases r; exact ⟨_, rfl, m, e⟩
theorem manyT_min {n s k : Int} (hs : 1 ≤ s) (hk : 0 ≤ k) (h : Rz s k < n) : min (n - Rz s k) (Rz (s - 1) (k + 1)) = manyT n s (k + 1) := by
  have e : Rz s (k + 1) = Rz (s - 1) (k + 1) + Rz s k := by
    by_cases h1 : s = 1
    · subst h1
      rw [show (1 : Int) - 1 = 0 by rfl, Rz_zero, Rz_one (by omega), Rz_one hk]
      omega
    · have := Rz_pascal (s := s) (r := k + 1) (by omega) (by omega)
      rw [show k + 1 - 1 = k by omega] at this
      exact this
  unfold manyT
  rw [show k + 1 - 1 = k by omega]
  omega
def sp_step_times (K : PySem.W.Frag) : Sp := sp2 fun a b H Q E => ∃ (n s : Int), a = .int n ∧ b = .int s ∧ 1 ≤ n ∧ n ≤ 10 ^ 30 ∧ 1 ≤ s ∧ s ≤ 100 ∧
  (rho n s ≤ 1000 → ∀ v H', Ex H H' → Rp H' (New H) v (.list ((stL n s (rho n s).toNat).map pD)) → Q v H') ∧ (1000 < rho n s → ∀ H' d, Ex H H' → H d = none → H' d = some (.xd [("limit", .int 1000)]) → E (.ref (eC K 4)) (some d) H')
theorem sc_step_times : FnScope ["length", "slots", "found", "left", "times", "many"] ["length", "slots"] (defScope s_step_times) := ⟨rfl, rfl, rfl, by decide +kernel, rfl, by decide +kernel, by decide +kernel⟩
theorem ok_step_times (T : Txt P w K mg base) : GOk P w K mg base (L2.CX P w) 5 T.a_step_times T.fd_step_times ["length", "slots"] (sp_step_times K) := by
  refine FunD.gok T.F_step_times sc_step_times (fun vs H Q E h => ar2 h) (fun cdv A fr s H vs Q E hr hc h => ⟨_, (Evl.pss_cut (ps_expr (pe_callG (ok_require_task T) hr hc (by rfl) T.g_require_task T.F_require_task.kp T.b_require_task .nil passL (pa_cons (pv 0) (pa_cons (pv 1) pa_nil)))) (Evl.pss_cut (ps_if (pt_cmpR op_gt (pe_callG (ok_rounds_of T) (hr.mono (by decide)) hc (by rfl) T.g_rounds_of T.F_rounds_of.kp T.b_rounds_of .nil passL (pa_cons (pv 0) (pa_cons (pv 1) pa_nil))) (pe_glob (v := .int 1000) (by rfl) T.c_MOST_ROUNDS ⟨_, rfl⟩) (nomark _)) (pss_one (ps_raise rfl (takes_of rfl rfl rfl rfl) (pmk_init T.i_4 (ok_TooLarge___init__ T) (hr.mono (by decide)) T.b_TooLarge___init__ (by rfl) (T.er.gl 4 (by decide)) (pa_cons (pe_glob (v := .int 1000) (by rfl) T.c_MOST_ROUNDS ⟨_, rfl⟩) pa_nil)))) pss_nil) (Evl.pss_cut (ps_par3 (i := 2) (j := 3) (l := 4) (by rfl) sc_step_times.nd rfl rfl rfl (by decide) (by decide) (by decide) rfl rfl rfl (pa_cons (pe_lst pa_nil) (pa_cons (pe_op op_sub (pv 0) pe_int) (pa_cons pe_int pa_nil))) (by rfl)) (Evl.pss_cut (ps_while (passes_of rfl) (pt_cmpR op_gt (pv 3) pe_int (nomark _)) (pss_cons (ps_set (i := 5) sc_step_times.nd rfl (.inl rfl) (pe_callB (call_min2 rfl) (by rfl) T.n_min (by decide +kernel) (pa_cons (pv 3) (pa_cons (pe_callG (ok_reach_of T) (hr.mono (by decide)) hc (by rfl) T.g_reach_of T.F_reach_of.kp T.b_reach_of .nil passL (pa_cons (pe_op op_sub (pv 1) pe_int) (pa_cons (pv 4) pa_nil))) pa_nil)))) (pss_cons (ps_expr (pe_bm PySem.F.plainAttrs_list PySem.F.slot_list_append PySem.F.type_list_append mt_append (pv 2) (pa_cons (pe_tup (pa_cons (pv 4) (pa_cons (pv 5) pa_nil))) pa_nil))) (pss_cons (ps_aug (i := 3) sc_step_times.nd rfl (.inl rfl) (pv 5) ip_sub) (pss_one (ps_aug (i := 4) sc_step_times.nd rfl (.inl rfl) pe_int ip_add)))))) (pss_one (ps_ret (pv 2))))))), ?_⟩)
  obtain ⟨_, _, rfl, n, s, rfl, rfl, n1, n2, s1, s2, q1, q2⟩ := h
  refine Evl.q_cut (M := fun σ' H' => σ' = [some (.int n), some (.int s), none, none, none, none] ∧ H = H') ?_ ?_
  · unfold sp_require_task
    walk_at "rd"
    exact ⟨n1, n2, s1, s2⟩
  rintro σ _ ⟨rfl, rfl⟩
  refine Evl.q_cut (M := fun σ' H' => σ' = [some (.int n), some (.int s), none, none, none, none] ∧ Ex H H' ∧ rho n s ≤ 1000) ?_ ?_
  · unfold sp_rounds_of
    walk_at "rd"
    exact ⟨n1, n2, s1, by omega, fun H' e => ite2 (fun h d hd => q2 h _ d (e.trans (exn hd)) (Evl.fresh_back e hd) upd_same) fun h => ⟨e, by omega⟩⟩
  rintro σ H1 ⟨rfl, e1, hr⟩
  have r0 := rho_nonneg n s
  refine Evl.q_cut (M := fun σ' H' => ∃ F, σ' = [some (.int n), some (.int s), some (.ref F), some (.int (n - 1)), some (.int 1), none] ∧ Ex H1 H' ∧ H1 F = none ∧ H' F = some (.lst [])) ?_ ?_
  · walk_at "rd"
    exact fun p hp => ⟨exn hp, hp⟩
  rintro σ H2 ⟨F, rfl, e2, nF, hF⟩
  have nF0 := Evl.fresh_back e1 nF
  refine Evl.q_cut (M := fun σ' H' => ∃ xs x y z, σ' = [some (.int n), some (.int s), some (.ref F), x, y, z] ∧ Ex H1 H' ∧ H' F = some (.lst xs) ∧ RpA H' (fun b => New H b ∧ b ≠ F) xs ((stL n s (rho n s).toNat).map pD)) ?_ ?_
  · walk_at "rd"
    refine ⟨fun m σ' H' => ∃ k : Nat, ∃ xs z, σ' = [some (.int n), some (.int s), some (.ref F), some (.int (n - min n (Rz s k))), some (.int ((k : Int) + 1)), z] ∧ Ex H1 H' ∧ (k : Int) ≤ rho n s ∧ H' F = some (.lst xs) ∧ RpA H' (fun b => New H b ∧ b ≠ F) xs ((stL n s k).map pD) ∧ m = ((rho n s).toNat - k),
      ⟨_, 0, [], none, ?_, e2, by omega, hF, .nil, rfl⟩, ?_⟩
    · have := Rz_r0 (s := s) (by omega)
      rw [show ((0 : Nat) : Int) = 0 from rfl, this, show min n 1 = 1 by omega]
      rfl
    rintro m σ' H3 ⟨k, xs, z, rfl, e3, hk, hF3, rx, rfl⟩
    unfold sp_reach_of
    walk_at "rd"
    have b0 := rho_reach (n := n) (s := s) s1
    by_cases hk2 : (k : Int) < rho n s
    · have b1 := rho_least (n := n) (s := s) (q := (k : Int)) n1 s1 (by omega) hk2
      have b2 := manyT_min (n := n) (s := s) (k := (k : Int)) s1 (by omega) b1
      have eif : (if Rz (s - 1) ((k : Int) + 1) < n - min n (Rz s k) then Rz (s - 1) ((k : Int) + 1) else n - min n (Rz s k)) = manyT n s ((k : Int) + 1) := by
        rw [← b2]
        split <;> omega
      rw [eif]
      have el : n - min n (Rz s k) - manyT n s ((k : Int) + 1) = n - min n (Rz s ((k + 1 : Nat) : Int)) := by
        unfold manyT
        rw [show (k : Int) + 1 - 1 = k by omega, show ((k + 1 : Nat) : Int) = (k : Int) + 1 by omega]
        omega
      rw [el]
      refine iteY (by omega) ⟨fun σ' H' => ∃ xs z, σ' = [some (.int n), some (.int s), some (.ref F), some (.int (n - min n (Rz s ((k + 1 : Nat) : Int)))), some (.int ((k : Int) + 1 + 1)), z] ∧ Ex H1 H' ∧ H' F = some (.lst xs) ∧ RpA H' (fun b => New H b ∧ b ≠ F) xs ((stL n s (k + 1)).map pD),
        fun σ' H' ⟨xs, z, h1, h2, h3, h4⟩ => ⟨_, by omega, k + 1, xs, z, h1, h2, by omega, h3, h4, rfl⟩, by omega, by omega, by omega, by omega, ⟨_, sq_l hF3⟩, fun p hp => ⟨xs, exn hp _ _ hF3, ?_, _, _, rfl, ?_, upd_same, ?_⟩⟩
      · rw [rx.len, List.length_map, stL_len]
        omega
      · exact Mo.ex_new (e3.trans (exn hp)) nF Mo.upd
      · rw [stL_succ, List.map_append]
        have npF : p ≠ F := fun z => by rw [z, hF3] at hp; cases hp
        have kp : ∀ b o, New H b ∧ b ≠ F → upd H3 p (.tup [.int ((k : Int) + 1), .int (manyT n s ((k : Int) + 1))]) b = some o → upd (upd H3 p (.tup [.int ((k : Int) + 1), .int (manyT n s ((k : Int) + 1))])) F (.lst (xs ++ [.ref p])) b = some o := fun b o hb h => by rw [upd_ne hb.2]; exact h
        refine ((rx.ex (exn hp)).keep kp fun _ h => h).app (.cons (pD_rp ⟨Evl.fresh_back (e1.trans e3) hp, npF⟩ ?_) .nil)
        rw [upd_ne npF, upd_same]
    · have ek : (k : Int) = rho n s := by omega
      have e2' : (rho n s).toNat = k := by omega
      rw [e2', ek]
      exact iteNo (by omega) ⟨e3, xs, hF3, rx⟩
  rintro σ H3 ⟨xs, x, y, z, rfl, e3, hF3, rx⟩
  walk_at "rd"
  exact q1 hr _ _ (e1.trans e3) (.lst nF0 hF3 (rx.sub fun b h => h.1))
/-! ### the times of drawn best splits -/
def sp_L_times (K : PySem.W.Frag) (d : Nat) : Sp := sp4 fun x y a b H Q _ => ∃ (r F : Addr) (m : Int) (rows : List V) (n s : Nat), x = .ref r ∧ y = .ref F ∧ a = .int n ∧ b = .int s ∧ Reel H r m ∧ m + n ≤ 10 ^ 50 ∧ H F = some (.lst rows) ∧ RpA H (fun b => b ≠ r) rows (tabD 8 61) ∧ F ≠ r ∧
  1 ≤ n ∧ n ≤ 60 ∧ n ≤ d ∧ 1 ≤ s ∧ s ≤ 8 ∧ ∀ A L H', Mo r H H' → Reel H' r (m + (n - 1)) → Tms L n s → H A = none → H' A = some (.lst (L.map V.int)) → Q (.ref A) H'
theorem no_L_times {K : PySem.W.Frag} : ∀ vs H Q E, ¬ sp_L_times K 0 vs H Q E := by
  rintro vs H Q E ⟨_, _, _, _, rfl, r, F, m, rows, n, s, _, _, _, _, _, _, _, _, _, h1, _, h2, _⟩
  omega
theorem sc_L_times : FnScope ["_law_reel", "_law_table_here", "_law_n", "_law_s", "_law_m", "_law_sums", "_law_fit", "_law_left", "_law_right", "_law_spot", "_law_total", "_law_times_here"] ["_law_reel", "_law_table_here", "_law_n", "_law_s"] (defScope s_L_times) := ⟨rfl, rfl, rfl, by decide +kernel, rfl, by decide +kernel, by decide +kernel⟩
theorem ok_L_times_r (T : Txt P w K mg base) : ∀ d : Nat, GOk P w K mg base (L2.CX P w) (15 + d) T.a_L_times T.fd_L_times ["_law_reel", "_law_table_here", "_law_n", "_law_s"] (sp_L_times K d)
 | 0 => gok_no (no_L_times (K := K))
 | d + 1 => by
  have ih := ok_L_times_r T d
  refine FunD.gok (k := 15 + d) T.F_L_times sc_L_times (fun vs H Q E h => ar4 h) (fun cdv A fr s H vs Q E hr hc h => ⟨_, PSs.nox (Evl.pss_cut (ps_if (pt_cmpR op_eq (pv 2) pe_int (nomark _)) (pss_one (ps_ret (pe_lst pa_nil))) pss_nil) (Evl.pss_cut (ps_if (pt_cmpR op_eq (pv 3) pe_int (nomark _)) (pss_one (ps_ret (pe_listRg3 rfl (by rfl) T.n_list (by rfl) T.n_range (pa_cons (pe_op op_sub (pv 2) pe_int) (pa_cons pe_int (pa_cons (pe_un un_neg pe_int) pa_nil)))))) pss_nil) (Evl.pss_cut (ps_setLc (i := 5) (own := [("_law_m", 4)]) rfl sc_L_times.nd rfl rfl (sw_true rfl rfl rfl (by decide +kernel)) (pi_range2 (by rfl) T.n_range (pa_cons pe_int (pa_cons (pv 2) pa_nil))) (blkOk_by (N := ["_law_reel", "_law_table_here", "_law_n", "_law_s", "_law_m", "_law_sums", "_law_fit", "_law_left", "_law_right", "_law_spot", "_law_total", "_law_times_here"]) (sc := defScope s_L_times) (by decide +kernel)) (fun _ _ _ _ _ => (pg_name (i := 4) sc_L_times.nd rfl (Or.inl rfl))) (fun _ _ _ _ _ => pts_nil) (fun _ _ _ _ _ => (pe_op op_add (pe_op op_add (pv 4) (pe_ix (r := rIxL K) ix_list (pe_ix (r := rIxL K) ix_list (pv 1) (pe_op op_sub (pv 3) pe_int) (fun _ _ => rfl)) (pe_op op_sub (pv 2) (pv 4)) (fun _ _ => rfl))) (pe_ix (r := rIxL K) ix_list (pe_ix (r := rIxL K) ix_list (pv 1) (pv 3) (fun _ _ => rfl)) (pv 4) (fun _ _ => rfl))))) (Evl.pss_cut (ps_setLc (i := 6) (own := [("_law_spot", 9), ("_law_total", 10)]) rfl sc_L_times.nd rfl rfl (sw_true rfl rfl rfl (by decide +kernel)) (pi_enum (by rfl) T.n_enumerate (pa_cons (pv 5) pa_nil)) (blkOk_by (N := ["_law_reel", "_law_table_here", "_law_n", "_law_s", "_law_m", "_law_sums", "_law_fit", "_law_left", "_law_right", "_law_spot", "_law_total", "_law_times_here"]) (sc := defScope s_L_times) (by decide +kernel)) (fun _ _ _ _ _ => (pg_tupT (n := 2) rfl (pgs_cons (pg_name (i := 9) sc_L_times.nd rfl (Or.inl rfl)) (pgs_cons (pg_name (i := 10) sc_L_times.nd rfl (Or.inl rfl)) pgs_nil)))) (fun _ _ _ _ _ => (pts_one (pt_cmpR op_eq (pv 10) (pe_ix (r := rIxL K) ix_list (pe_ix (r := rIxL K) ix_list (pv 1) (pv 3) (fun _ _ => rfl)) (pv 2) (fun _ _ => rfl)) (nomark _)))) (fun _ _ _ _ _ => (pe_op op_add (pv 9) pe_int))) (Evl.pss_cut (ps_set (i := 4) sc_L_times.nd rfl (.inl rfl) (pe_ix (r := rIxL K) ix_list (pv 6) (pe_callG (ok_L_spin T) (hr.mono (by omega)) hc (by rfl) T.g_L_spin T.F_L_spin.kp T.b_L_spin .nil passL (pa_cons (pv 0) (pa_cons (pe_callB (r := rLenQ K) call_lenQ (by rfl) T.n_len (by decide +kernel) (pa_cons (pv 6) pa_nil)) pa_nil))) (fun _ _ => rfl))) (Evl.pss_cut (ps_par (i := 7) (j := 8) (by rfl) sc_L_times.nd rfl rfl (by decide) rfl rfl (pa_cons (pe_callG ih hr hc (by rfl) T.g_L_times T.F_L_times.kp T.b_L_times .nil passL (pa_cons (pv 0) (pa_cons (pv 1) (pa_cons (pv 4) (pa_cons (pv 3) pa_nil))))) (pa_cons (pe_callG ih hr hc (by rfl) T.g_L_times T.F_L_times.kp T.b_L_times .nil passL (pa_cons (pv 0) (pa_cons (pv 1) (pa_cons (pe_op op_sub (pv 2) (pv 4)) (pa_cons (pe_op op_sub (pv 3) pe_int) pa_nil))))) pa_nil)) (by rfl)) (pss_one (ps_ret (pe_op op_cat (pe_op op_cat (pe_lc (own := [("_law_times_here", 11)]) rfl sc_L_times.nd (pi_list (pv 7)) (blkOk_by (N := ["_law_reel", "_law_table_here", "_law_n", "_law_s", "_law_m", "_law_sums", "_law_fit", "_law_left", "_law_right", "_law_spot", "_law_total", "_law_times_here"]) (sc := defScope s_L_times) (by decide +kernel)) (fun _ _ _ _ _ => (pg_name (i := 11) sc_L_times.nd rfl (Or.inl rfl))) (fun _ _ _ _ _ => pts_nil) (fun _ _ _ _ _ => (pe_op op_add (pv 11) pe_int))) (pe_lst (pa_cons pe_int pa_nil))) (pv 8)))))))))), ?_⟩)
  obtain ⟨_, _, _, _, rfl, r, F, m, rows, n, s, rfl, rfl, rfl, rfl, hR, hm, hF, rt, nF, n1, n2, nd, s1, s2, q⟩ := h
  refine Evl.q_cut (M := fun σ' H' => σ' = [some (.ref r), some (.ref F), some (.int n), some (.int s), none, none, none, none, none, none, none, none] ∧ H = H' ∧ n ≠ 1) ?_ ?_
  · walk_at "rd"
    refine ite2 (fun h p hp => ?_) fun h z => h (by omega)
    have e1 : n = 1 := by omega
    subst e1
    exact q p [] _ (Mo.ex (exn hp)) ((hR.ex (exn hp)).up (by omega)) (Tms.one (by omega)) hp upd_same
  rintro σ _ ⟨rfl, rfl, hn1⟩
  refine Evl.q_cut (M := fun σ' H' => σ' = [some (.ref r), some (.ref F), some (.int n), some (.int s), none, none, none, none, none, none, none, none] ∧ H = H' ∧ s ≠ 1) ?_ ?_
  · walk_at "rd"
    refine ite2 (fun h => ?_) fun h z => h (by omega)
    have e1 : s = 1 := by omega
    subst e1
    simp only [tLstRg3]
    walk_at "rd"
    refine ⟨by omega, by omega, by omega, fun p hp => ?_⟩
    obtain ⟨k, rfl⟩ : ∃ k, n = k + 1 := ⟨n - 1, by omega⟩
    refine q p (downL k) _ (Mo.ex (exn hp)) ((hR.ex (exn hp)).up (by omega)) Tms.slot1 hp ?_
    rw [upd_same, downL_range, List.map_map, show (((k + 1 : Nat) : Int) - 1 - 0).toNat = k by omega]
    congr 2
    exact List.map_congr_left fun i _ => congrArg V.int (by show _ = (k : Int) - (i : Int); omega)
  rintro σ _ ⟨rfl, rfl, hs1⟩
  refine Evl.q_cut (M := fun σ' H' => ∃ A, σ' = [some (.ref r), some (.ref F), some (.int n), some (.int s), none, some (.ref A), none, none, none, none, none, none] ∧ Ex H H' ∧ H' A = some (.lst ((splitV n s).map V.int))) ?_ ?_
  · walk_at "rd"
    refine lc_rng2 (lo := 1) (n := n - 1) (fun k => .int (1 + (k : Int) + tt (n - (k + 1)) (s - 1) + tt (k + 1) s)) (fun R q => by walk_at "rd"; rw [show 1 + ((n - 1 : Nat) : Int) = (n : Int) by omega] at q; exact q) (by omega) (by omega) (fun _ => rfl) ?_ ?_
    · intro k H4 hk e4 Rr hR
      simp only [wipe]
      walk_at "rd"
      obtain ⟨v1, hv1, rv1⟩ := (rt.ex e4).at (tabD_at (k := 8) (n := 61) (i := s - 2) (by omega))
      obtain ⟨b, rfl, _, hb⟩ := rv1.ints
      refine ⟨_, sq_l (e4 _ _ hF), _, atI_of (j := s - 2 + 1) (by omega) hv1, ?_⟩
      walk_at "rd"
      refine ⟨_, sq_l hb, _, atI_of (j := n - (k + 1)) (by omega) (rowV_at (by omega)), ?_⟩
      walk_at "rd"
      obtain ⟨v2, hv2, rv2⟩ := (rt.ex e4).at (tabD_at (k := 8) (n := 61) (i := s - 1) (by omega))
      obtain ⟨b2, rfl, _, hb2⟩ := rv2.ints
      refine ⟨_, sq_l (e4 _ _ hF), _, atI_of (j := s - 1 + 1) (by omega) hv2, ?_⟩
      walk_at "rd"
      refine ⟨_, sq_l hb2, _, atI_of (j := k + 1) (by omega) (rowV_at (by omega)), ?_⟩
      walk_at "rd"
      rw [show s - 2 + 1 = s - 1 by omega, show s - 1 + 1 = s by omega]
      exact hR _ _ (Evl.Ex.refl _) (.int _)
    · intro v4 H4 e4 hv4
      have hv4' : Rp H4 (New H) v4 (.list ((splitV n s).map PyData.int)) := by
        unfold splitV
        rw [List.map_map]
        exact hv4
      obtain ⟨b, rfl, _, hb⟩ := hv4'.ints
      exact ⟨b, rfl, e4, hb⟩
  rintro σ H1 ⟨A, rfl, e1, hA⟩
  have hn2 : 2 ≤ n := by omega
  have hs2 : 2 ≤ s := by omega
  have lsp : (splitV n s).length = n - 1 := by unfold splitV; rw [List.length_map, List.length_range]
  refine Evl.q_cut (M := fun σ' H' => ∃ B ms, σ' = [some (.ref r), some (.ref F), some (.int n), some (.int s), none, some (.ref A), some (.ref B), none, none, none, none, none] ∧ Ex H1 H' ∧ H1 B = none ∧ H' B = some (.lst ((ms : List Int).map V.int)) ∧ ms ≠ [] ∧ ms.length ≤ 60 ∧ ∀ k ∈ ms, 1 ≤ k ∧ k < n ∧ Best n s k) ?_ ?_
  · walk_at "rd"
    simp only [tLc_enum]
    walk_at "rd"
    refine ⟨_, sq_l hA, lcE_in (sq_l hA) (fun (i : Nat) => decide (fz n s (i + 1 : Nat) = tz n s)) (fun (i : Nat) => .int ((i : Int) + 1)) (by rw [List.length_map, lsp]; omega) ?_ ?_⟩
    · intro i x T H6 hi e6 hT6 R Rt k1 k2
      have li : i < n - 1 := by
        have := (List.getElem?_eq_some_iff.mp hi).1
        rw [List.length_map, lsp] at this
        exact this
      rw [List.getElem?_map, splitV_at li, splitV_fz (by omega) hs2 li] at hi
      obtain rfl : V.int (fz n s (i + 1 : Nat)) = x := Option.some.inj hi
      simp only [wipe]
      walk_at "rd"
      refine ⟨_, hT6, rfl, ?_⟩
      walk_at "rd"
      obtain ⟨v1, hv1, rv1⟩ := (rt.ex (e1.trans e6)).at (tabD_at (k := 8) (n := 61) (i := s - 1) (by omega))
      obtain ⟨b, rfl, _, hb⟩ := rv1.ints
      refine ⟨_, sq_l ((e1.trans e6) _ _ hF), _, atI_of (j := s - 1 + 1) (by omega) hv1, ?_⟩
      walk_at "rd"
      refine ⟨_, sq_l hb, _, atI_of (j := n) (by omega) (rowV_at (by omega)), rfl, ?_⟩
      have te : tt n (s - 1 + 1) = tz n s := by unfold tt; rw [if_neg (by omega), show s - 1 + 1 = s by omega]
      rw [te]
      refine ite2 (fun h => ?_) fun h => ?_
      · exact k2 (decide_eq_true (V.int.inj h)) _ H6 (.refl _) (.int _)
      · exact k1 (decide_eq_false fun z => h (congrArg V.int z)) H6 (.refl _)
    · intro v H6 e6 hv
      rw [List.length_map, lsp] at hv
      have el : ((List.range (n - 1)).filter fun (i : Nat) => decide (fz n s (i + 1 : Nat) = tz n s)).map (fun (i : Nat) => PyData.int ((i : Int) + 1)) = (((List.range (n - 1)).filter fun (i : Nat) => decide (fz n s (i + 1 : Nat) = tz n s)).map fun (i : Nat) => ((i : Int) + 1)).map PyData.int := by rw [List.map_map]; rfl
      rw [el] at hv
      obtain ⟨B, rfl, nB, hB⟩ := hv.ints
      refine ⟨B, rfl, e6, nB, _, hB, fun z => ?_, ?_, fun k hk => ?_⟩
      · obtain ⟨k, k1, k2, kb⟩ := best_is (n := (n : Int)) (s := (s : Int)) (by omega) (by omega)
        have hk := tz_best (n := (n : Int)) (s := (s : Int)) (by omega) k1 k2 kb
        have hm : k.toNat - 1 ∈ (List.range (n - 1)).filter fun (i : Nat) => decide (fz n s (i + 1 : Nat) = tz n s) := by
          refine List.mem_filter.mpr ⟨List.mem_range.mpr (by omega), ?_⟩
          rw [show ((k.toNat - 1 + 1 : Nat) : Int) = k by omega]
          exact decide_eq_true hk
        rw [List.map_eq_nil_iff.mp z] at hm
        cases hm
      · rw [List.length_map]
        have := List.length_filter_le (fun (i : Nat) => decide (fz n s (i + 1 : Nat) = tz n s)) (List.range (n - 1))
        rw [List.length_range] at this
        omega
      · obtain ⟨i, hi, rfl⟩ := List.mem_map.mp hk
        obtain ⟨h1, h2⟩ := List.mem_filter.mp hi
        have h1 := List.mem_range.mp h1
        have h2 := of_decide_eq_true h2
        rw [show ((i + 1 : Nat) : Int) = (i : Int) + 1 by omega] at h2
        refine ⟨by omega, by omega, Classical.byContradiction fun z => ?_⟩
        have := tz_lt_fz (n := (n : Int)) (s := (s : Int)) (m := (i : Int) + 1) (by omega) (by omega) (by omega) z
        omega
  rintro σ H2 ⟨B, ms, rfl, e2, nB, hB, hne, hlm, hms⟩
  have e12 := e1.trans e2
  have R2 := hR.ex e12
  have nBr : B ≠ r := (hR.ex e1).ne nB
  refine Evl.q_cut (M := fun σ' H' => ∃ k : Nat, σ' = [some (.ref r), some (.ref F), some (.int n), some (.int s), some (.int k), some (.ref A), some (.ref B), none, none, none, none, none] ∧ Mo r H2 H' ∧ Reel H' r (m + 1) ∧ 1 ≤ k ∧ k < n ∧ Best n s k) ?_ ?_
  · unfold sp_L_spin
    walk_at "rd"
    refine ⟨_, .inl (sq_l hB), m, R2, by omega, ?_⟩
    rw [List.length_map]
    have l1 := List.length_pos_iff.mpr hne
    refine ⟨by omega, by omega, fun z H' z0 z1 o R => ?_⟩
    obtain ⟨j, rfl⟩ := Int.eq_ofNat_of_zero_le z0
    have hj : j < ms.length := by omega
    have hk := hms _ (List.getElem_mem hj)
    refine ⟨_, sq_l (o B _ nBr hB), _, atI_nat (by rw [List.getElem?_map, List.getElem?_eq_getElem hj]; rfl), ms[j].toNat, ?_, o, R, by omega, by omega, ?_⟩
    · rw [show ((ms[j].toNat : Nat) : Int) = ms[j] by omega]
    · rw [show ((ms[j].toNat : Nat) : Int) = ms[j] by omega]
      exact hk.2.2
  rintro σ H3 ⟨k, rfl, o3, R3, k1, k2, hb⟩
  have o03 : Mo r H H3 := (Mo.ex e12).trans o3
  refine Evl.q_cut (M := fun σ' H' => ∃ C D la lb, σ' = [some (.ref r), some (.ref F), some (.int n), some (.int s), some (.int k), some (.ref A), some (.ref B), some (.ref C), some (.ref D), none, none, none] ∧ Mo r H3 H' ∧ Reel H' r (m + (n - 1)) ∧ H' C = some (.lst ((la : List Int).map V.int)) ∧ H' D = some (.lst ((lb : List Int).map V.int)) ∧ Tms la k s ∧ Tms lb ((n : Int) - k) ((s : Int) - 1)) ?_ ?_
  · walk_at "rd"
    have tab : ∀ {H' : Hp}, Mo r H H' → H' F = some (.lst rows) ∧ RpA H' (fun b => b ≠ r) rows (tabD 8 61) := fun o => ⟨o _ _ nF hF, rt.keep (fun b x h1 h2 => o b x h1 h2) fun _ h => h⟩
    refine ⟨_, _, _, _, rfl, r, F, m + 1, rows, k, s, rfl, rfl, rfl, rfl, R3, by omega, (tab o03).1, (tab o03).2, nF, by omega, by omega, by omega, s1, s2, fun C la H4 o4 R4 ta nC hC => ?_⟩
    have o04 := o03.trans o4
    have nCr : C ≠ r := R3.ne nC
    refine ⟨_, _, _, _, rfl, r, F, m + 1 + ((k : Int) - 1), rows, n - k, s - 1, rfl, rfl, congrArg V.int (by omega), congrArg V.int (by omega), R4, by omega, (tab o04).1, (tab o04).2, nF, by omega, by omega, by omega, by omega, by omega, fun D lb H5 o5 R5 tb nD hD => ?_⟩
    rw [show ((n - k : Nat) : Int) = (n : Int) - k by omega, show ((s - 1 : Nat) : Int) = (s : Int) - 1 by omega] at tb
    exact ⟨C, rfl, D, rfl, o4.trans o5, R5.up (by omega), la, o5 _ _ nCr hC, lb, hD, ta, tb⟩
  rintro σ H4 ⟨C, D, la, lb, rfl, o4, R4, hC, hD, ta, tb⟩
  walk_at "rd"
  simp only [tLc_lst]
  walk_at "rd"
  have lla := ta.2.1
  have llb := tb.2.1
  have o04 := o03.trans o4
  refine lcL_in (xs := la.map V.int) (fun _ => true) (fun i => .int (la.getD i 0 + 1)) (sq_l hC) (by rw [List.length_map]; omega) (fun _ => rfl) (fun i x H1 hx e R k => k H1 (.refl _)) ?_ ?_
  · rintro i x H5 hx _ e R k
    rw [List.getElem?_map] at hx
    obtain ⟨y, hy, rfl⟩ := Option.map_eq_some_iff.mp hx
    rw [List.getD_eq_getElem?_getD, hy] at k
    simp only [wipe]
    walk_at "rd"
    exact k _ H5 (.refl _) (.int _)
  · intro v H5 e hv
    rw [List.length_map, range_map la (fun y => PyData.int (y + 1)) (fun i => .int (la.getD i 0 + 1)) (fun i x h => by show PyData.int (la.getD i 0 + 1) = _; rw [List.getD_eq_getElem?_getD, h]; rfl)] at hv
    have el : la.map (fun y => PyData.int (y + 1)) = (la.map (· + 1)).map PyData.int := by rw [List.map_map]; rfl
    rw [el] at hv
    obtain ⟨L, rfl, nL, hL⟩ := hv.ints
    intro p hp
    have k1 := exn (o := .lst [.int 1]) hp
    refine ⟨L, rfl, _, k1 _ _ hL, by rw [List.length_map, List.length_map]; omega, fun p1 hp1 => ?_⟩
    have k2 := exn (o := .lst ((la.map (· + 1)).map V.int ++ [.int 1])) hp1
    refine ⟨_, k2 _ _ (k1 _ _ (e _ _ hD)), by rw [List.length_append, List.length_map, List.length_map, List.length_map]; show _ + 1 + _ ≤ _; omega, fun p2 hp2 => ?_⟩
    have kk := ((e.trans k1).trans k2)
    have nP : H p2 = none := by
      have h4 : H4 p2 = none := Evl.fresh_back kk hp2
      exact mo_none o04 R4 h4
    refine q p2 (la.map (· + 1) ++ [1] ++ lb) _ (o04.trans (Mo.ex (kk.trans (exn hp2)))) (R4.ex (kk.trans (exn hp2))) (Tms.split (by omega) (by omega) (by omega) hb ta tb) nP ?_
    rw [upd_same, List.map_append, List.map_append]
    rfl
theorem ok_L_times (T : Txt P w K mg base) : GOk P w K mg base (L2.CX P w) 75 T.a_L_times T.fd_L_times ["_law_reel", "_law_table_here", "_law_n", "_law_s"] (sp_L_times K 60) := ok_L_times_r T 60
/-! ### small tasks -/
theorem stD_fine {n s : Int} {r : Nat} (h1 : 1 ≤ n) (h2 : n ≤ 10 ^ 30) (hs : 1 ≤ s) (hr : r ≤ 1000) : fine 20 (.list ((stL n s r).map pD)) = true ∧ sz (.list ((stL n s r).map pD)) ≤ 16000000 := by
  have hM := med_200
  have all : ∀ d ∈ (stL n s r).map pD, fine 19 d = true ∧ sz d ≤ 5000 := fun d hd => by
    obtain ⟨⟨t, c⟩, hp, rfl⟩ := List.mem_map.mp hd
    obtain ⟨t1, t2, rfl⟩ := stL_mem.mp hp
    have hm := manyT_le (n := n) (s := s) (t := t) hs t1 h1
    have l1 : t.natAbs.log2 < 1900 := med_log (by omega) (by omega)
    have l2 : (manyT n s t).natAbs.log2 < 1900 := med_log (by omega) (by omega)
    refine ⟨?_, by show 2000 + 2 + (2000 + 2 + 0) + 3 ≤ 5000; decide⟩
    show (decide (t.natAbs.log2 < 1900) && (decide ((manyT n s t).natAbs.log2 < 1900) && true)) = true
    rw [decide_eq_true l1, decide_eq_true l2]
    rfl
  have fa : ∀ {k : Nat} {xs : List PyData}, (∀ x ∈ xs, fine k x = true) → fineAll k xs = true := by
    intro k xs
    induction xs with
    | nil => intro _; rfl
    | cons x xs ih =>
      intro h
      show (fine k x && fineAll k xs) = true
      rw [h x (List.mem_cons_self ..), ih fun y hy => h y (List.mem_cons_of_mem _ hy)]
      rfl
  have sa : ∀ {m : Nat} {xs : List PyData}, (∀ x ∈ xs, sz x ≤ m) → szAll xs ≤ (m + 2) * xs.length := by
    intro m xs
    induction xs with
    | nil => intro _; exact Nat.le_refl _
    | cons x xs ih =>
      intro h
      have a := h x (List.mem_cons_self ..)
      have b := ih fun y hy => h y (List.mem_cons_of_mem _ hy)
      show sz x + 2 + szAll xs ≤ (m + 2) * (xs.length + 1)
      rw [Nat.mul_add, Nat.mul_one]
      omega
  refine ⟨fa fun d hd => (all d hd).1, ?_⟩
  have := sa fun d hd => (all d hd).2
  rw [List.length_map, stL_len] at this
  show szAll _ + 3 ≤ _
  omega
/-- the sorted pairs of the counts are the list of the times -/
theorem srt_is {ps qs : List (Int × Int)} {n s : Int} {r : Nat} (h1 : qs.Perm ps) (h2 : ps.Perm (stL n s r)) (h3 : SrtP qs) : qs = stL n s r := by
  have w2 : SrtP (stL n s r) := by
    unfold SrtP SrtO.Srtd stL
    rw [List.pairwise_map]
    refine List.Pairwise.imp (R := (· < ·)) (fun {a b} h => ?_) List.pairwise_lt_range
    refine SrtO.lexB_no.mpr ?_
    show ¬ ((b : Int) + 1 < (a : Int) + 1 ∨ _)
    rintro (z | ⟨z, _⟩)
    · omega
    · have : (b : Int) + 1 = (a : Int) + 1 := z
      omega
  refine List.Perm.eq_of_pairwise (le := fun a b => SrtO.lexB b a = false) (fun a b _ _ e1 e2 => ?_) h3 w2 (h1.trans h2)
  have a1 := SrtO.lexB_no.mp e1
  have a2 := SrtO.lexB_no.mp e2
  obtain ⟨a, a'⟩ := a
  obtain ⟨b, b'⟩ := b
  simp only at a1 a2
  rw [Prod.mk.injEq]
  omega
theorem paired_rp {H : Hp} {S : Addr → Prop} : ∀ {ts : List Addr} {qs : List (Int × Int)}, Paired (fun (t : Addr) (q : Int × Int) => H t = some (.tup [.int q.1, .int q.2])) ts qs → (∀ t ∈ ts, S t) → RpA H S (ts.map V.ref) (qs.map pD)
  | _, _, .nil, _ => .nil
  | _, _, .cons h r, k => .cons (pD_rp (k _ (List.mem_cons_self ..)) h) (paired_rp r fun t ht => k t (List.mem_cons_of_mem _ ht))
theorem valV_int : ∀ (ps : List (Int × Int)) (t : Int), (valV (intKvs ps) (Sum.inl t : Key)).getD (.int 0) = .int (getC ps t)
  | [], t => rfl
  | p :: r, t => by
    show (valV ((Sum.inl p.1, V.int p.2) :: intKvs r) (Sum.inl t : Key)).getD (.int 0) = _
    unfold getC
    by_cases h : p.1 = t
    · rw [valV_pos (by rw [h]), List.find?_cons_of_pos (by simpa using h)]
      rfl
    · rw [valV_neg (fun z => h (by injection z)), List.find?_cons_of_neg (by simpa using h), valV_int r t]
      rfl
theorem putK_bump : ∀ (ps : List (Int × Int)) (t : Int), (ps.map (·.1)).Nodup → putK (intKvs ps) (Sum.inl t : Key) (.int (getC ps t + 1)) = intKvs (bump ps t)
  | [], t, _ => rfl
  | p :: r, t, hn => by
    rw [List.map_cons, List.nodup_cons] at hn
    have ih := putK_bump r t hn.2
    by_cases h : p.1 = t
    · have g : getC (p :: r) t = p.2 := by
        unfold getC
        rw [List.find?_cons_of_pos (by simpa using h)]
      rw [g]
      unfold bump
      rw [if_pos h]
      unfold putK
      have ha : ((intKvs (p :: r)).any fun kv => decide (kv.1 = (Sum.inl t : Key))) = true := by
        show (decide ((Sum.inl p.1 : Key) = Sum.inl t) || _) = true
        rw [decide_eq_true (by rw [h]), Bool.true_or]
      rw [if_pos ha]
      show (if (Sum.inl p.1 : Key) = Sum.inl t then ((Sum.inl p.1 : Key), V.int (p.2 + 1)) else _) :: _ = (Sum.inl p.1, V.int (p.2 + 1)) :: intKvs r
      rw [if_pos (by rw [h])]
      congr 1
      unfold intKvs
      rw [List.map_map]
      refine List.map_congr_left fun q hq => ?_
      show (if (Sum.inl q.1 : Key) = Sum.inl t then _ else _) = _
      rw [if_neg (fun z => hn.1 ?_)]
      injection z with z
      rw [h, ← z]
      exact List.mem_map.mpr ⟨q, hq, rfl⟩
    · have g : getC (p :: r) t = getC r t := by
        unfold getC
        rw [List.find?_cons_of_neg (by simpa using h)]
      rw [g]
      unfold bump
      rw [if_neg h]
      show _ = (Sum.inl p.1, V.int p.2) :: intKvs (bump r t)
      rw [← ih]
      have ne : ¬ (Sum.inl p.1 : Key) = Sum.inl t := fun z => h (by injection z)
      unfold putK
      have ha : ((intKvs (p :: r)).any fun kv => decide (kv.1 = (Sum.inl t : Key))) = (intKvs r).any fun kv => decide (kv.1 = (Sum.inl t : Key)) := by
        show (decide ((Sum.inl p.1 : Key) = Sum.inl t) || (intKvs r).any fun kv => decide (kv.1 = (Sum.inl t : Key))) = _
        rw [decide_eq_false ne, Bool.false_or]
      rw [ha]
      by_cases hb : ((intKvs r).any fun kv => decide (kv.1 = (Sum.inl t : Key))) = true
      · rw [if_pos hb, if_pos hb]
        show (if (Sum.inl p.1 : Key) = Sum.inl t then _ else (Sum.inl p.1, V.int p.2)) :: _ = _
        rw [if_neg ne]
        rfl
      · rw [if_neg hb, if_neg hb]
        rfl
theorem bump_len (ps : List (Int × Int)) (t : Int) : (bump ps t).length ≤ ps.length + 1 := by
  induction ps with
  | nil => exact Nat.le_refl _
  | cons p r ih =>
    unfold bump
    split
    · simp
    · rw [List.length_cons, List.length_cons]; omega
def sp_L_small_right (K : PySem.W.Frag) : Sp := sp2 fun x y H Q _ => ∃ (r F : Addr) (m : Int) (rows : List V), x = .ref r ∧ y = .ref F ∧ Reel H r m ∧ m ≤ 10 ^ 40 ∧ H F = some (.lst rows) ∧ RpA H (fun b => b ≠ r) rows (tabD 8 61) ∧ F ≠ r ∧
  ∀ H', Mo r H H' → Reel H' r (m + 70) → Q (.bl true) H'
theorem sc_L_small_right : FnScope ["_law_reel", "_law_table_here", "_law_n", "_law_s", "_law_counts", "_law_times_here", "_law_told"] ["_law_reel", "_law_table_here"] (defScope s_L_small_right) := ⟨rfl, rfl, rfl, by decide +kernel, rfl, by decide +kernel, by decide +kernel⟩
theorem ok_L_small_right (T : Txt P w K mg base) : GOk P w K mg base (L2.CX P w) 76 T.a_L_small_right T.fd_L_small_right ["_law_reel", "_law_table_here"] (sp_L_small_right K) := by
  refine FunD.gok T.F_L_small_right sc_L_small_right (fun vs H Q E h => ar2 h) (fun cdv A fr s H vs Q E hr hc h => ⟨_, PSs.nox (Evl.pss_cut (ps_par (i := 2) (j := 3) (by rfl) sc_L_small_right.nd rfl rfl (by decide) rfl rfl (pa_cons (pe_op op_add pe_int (pe_callG (ok_L_spin T) (hr.mono (by decide)) hc (by rfl) T.g_L_spin T.F_L_spin.kp T.b_L_spin .nil passL (pa_cons (pv 0) (pa_cons pe_int pa_nil)))) (pa_cons (pe_op op_add pe_int (pe_callG (ok_L_spin T) (hr.mono (by decide)) hc (by rfl) T.g_L_spin T.F_L_spin.kp T.b_L_spin .nil passL (pa_cons (pv 0) (pa_cons pe_int pa_nil)))) pa_nil)) (by rfl)) (Evl.pss_cut (ps_set (i := 4) sc_L_small_right.nd rfl (.inl rfl) pe_dnewK) (Evl.pss_cut (ps_for PassesOwn.never rfl (pi_list (pe_callG (ok_L_times T) hr hc (by rfl) T.g_L_times T.F_L_times.kp T.b_L_times .nil passL (pa_cons (pv 0) (pa_cons (pv 1) (pa_cons (pv 2) (pa_cons (pv 3) pa_nil)))))) (pg_name (i := 5) sc_L_small_right.nd rfl (.inl rfl)) (pss_one (ps_dput (hu1 hr) (pv 4) (pv 5) (pe_op op_add (pe_dget2 (hu1 hr) (pv 4) (pv 5) pe_int ⟨by rfl, by rfl, by rfl, by rfl⟩) pe_int) (by rfl)))) (Evl.pss_cut (ps_set (i := 6) sc_L_small_right.nd rfl (.inl rfl) (pe_callG (ok_step_times T) (hr.mono (by decide)) hc (by rfl) T.g_step_times T.F_step_times.kp T.b_step_times .nil passL (pa_cons (pv 2) (pa_cons (pv 3) pa_nil)))) (Evl.pss_cut (ps_if (pt_cmpR op_ne (pe_callB (r := rReprD K) (call_repr_D hr hc) (by rfl) T.n_repr (by decide +kernel) (pa_cons (pv 6) pa_nil)) (pe_callB (r := rReprD K) (call_repr_D hr hc) (by rfl) T.n_repr (by decide +kernel) (pa_cons (pe_sortedItems rfl (pv 4) (by rfl) T.n_sorted (by decide +kernel)) pa_nil)) (nomark _)) (pss_one (ps_ret pe_bl)) pss_nil) (Evl.pss_cut (ps_expr (pe_bm PySem.F.plainAttrs_list PySem.F.slot_list_append PySem.F.type_list_append mt_append (pv 6) (pa_cons (pe_tup (pa_cons pe_int (pa_cons pe_int pa_nil))) pa_nil))) (pss_one (ps_ret (pe_cmpR (r := rEqF K) (op_eqF hr) (pe_callG (ok_step_times T) (hr.mono (by decide)) hc (by rfl) T.g_step_times T.F_step_times.kp T.b_step_times .nil passL (pa_cons (pv 2) (pa_cons (pv 3) pa_nil))) (pe_sortedItems rfl (pv 4) (by rfl) T.n_sorted (by decide +kernel)) (nomark _)))))))))), ?_⟩)
  obtain ⟨_, _, rfl, r, F, m, rows, rfl, rfl, hR, hm, hF, rt, nF, q⟩ := h
  refine Evl.q_cut (M := fun σ' H' => ∃ n s : Nat, σ' = [some (.ref r), some (.ref F), some (.int n), some (.int s), none, none, none] ∧ Mo r H H' ∧ Reel H' r (m + 2) ∧ 1 ≤ n ∧ n ≤ 60 ∧ 1 ≤ s ∧ s ≤ 8) ?_ ?_
  · unfold sp_L_spin
    walk_at "rd"
    exact ⟨m, hR, by omega, fun z H' z0 z1 o R => ⟨m + 1, R, by omega, fun w H'' w0 w1 o' R' => ⟨(1 + z).toNat, by omega, (1 + w).toNat, by omega, o.trans o', R'.up (by omega), by omega, by omega, by omega, by omega⟩⟩⟩
  rintro σ H1 ⟨n, s, rfl, o1, R1, n1, n2, s1, s2⟩
  refine Evl.q_cut (M := fun σ' H' => ∃ D, σ' = [some (.ref r), some (.ref F), some (.int n), some (.int s), some (.ref D), none, none] ∧ Ex H1 H' ∧ H1 D = none ∧ H' D = some (.dK [])) ?_ ?_
  · walk_at "rd"
    simp only [tDNewK]
    exact fun p hp => ⟨p, rfl, exn hp, hp, upd_same⟩
  rintro σ H2 ⟨D, rfl, e2, nD, hD⟩
  refine Evl.q_cut (M := fun σ' H' => ∃ x ps L, σ' = [some (.ref r), some (.ref F), some (.int n), some (.int s), some (.ref D), x, none] ∧ Mo r H1 H' ∧ Reel H' r (m + 62) ∧ H' D = some (.dK (intKvs ps)) ∧ Cnt ps L ∧ Tms L n s) ?_ ?_
  · simp only [tFor_lst]
    walk_at "rd"
    have nDr : D ≠ r := R1.ne nD
    have o02 := o1.trans (Mo.ex (r := r) e2)
    refine ⟨_, _, _, _, rfl, r, F, m + 2, rows, n, s, rfl, rfl, rfl, rfl, R1.ex e2, by omega, o02 _ _ nF hF, rt.keep (fun b x h1 h2 => o02 b x h1 h2) fun _ h => h, nF, n1, n2, n2, s1, s2, fun B L H3 o3 R3 ht nB hB => ?_⟩
    have nBD : B ≠ D := fun z => by rw [z, hD] at nB; cases nB
    have nBr : B ≠ r := (R1.ex e2).ne nB
    refine forL_in (xs := L.map V.int) (sq_l hB) (fun i σ' H' => ∃ x ps, σ' = [some (.ref r), some (.ref F), some (.int n), some (.int s), some (.ref D), x, none] ∧ Mo r H1 H' ∧ Reel H' r (m + 62) ∧ H' D = some (.dK (intKvs ps)) ∧ Cnt ps (L.take i) ∧ ps.length ≤ i ∧ H' B = some (.lst (L.map V.int)))
      ⟨none, [], rfl, (Mo.ex e2).trans o3, R3.up (by omega), o3 _ _ nDr hD, Cnt.nil, Nat.le_refl _, hB⟩ (fun i σ' H' _ ⟨x, ps, _, _, _, _, _, _, h⟩ => sq_l h) ?_ ?_
    · rintro σ' H' ⟨x, ps, rfl, o, R, hD', hc, hl, hB'⟩
      rw [List.length_map, List.take_length] at hc
      exact ⟨x, rfl, o, R, ps, hD', L, hc, ht⟩
    · rintro i v σ' H' hi ⟨x, ps, rfl, o, R, hD', hc, hl, hB'⟩
      rw [List.getElem?_map] at hi
      obtain ⟨t, hti, rfl⟩ := Option.map_eq_some_iff.mp hi
      have lL := ht.2.1
      have hil := (List.getElem?_eq_some_iff.mp hti).1
      walk_at "rd"
      simp only [tDGet2]
      walk_at "rd"
      have nDr : D ≠ r := R1.ne nD
      refine ⟨.inl ⟨_, .inl hD'⟩, _, DGet.k (k := Sum.inl t) hD', getC ps t, valV_int ps t, _, DPut.k (k := Sum.inl t) hD' ?_, ?_, ?_, bump ps t, ?_, ?_, ?_, ?_⟩
      · unfold intKvs
        rw [List.length_map, sizeLine_eq]
        omega
      · exact fun c w hc h => by rw [upd_ne (fun z => by rw [z, nD] at h; cases h)]; exact o c w hc h
      · exact R.keep fun w h => by rw [upd_ne (Ne.symm nDr)]; exact h
      · rw [upd_same, putK_bump ps t hc.1]
      · obtain ⟨hl2, e9⟩ := List.getElem?_eq_some_iff.mp hti
        rw [List.take_succ_eq_append_getElem hl2, e9]
        exact hc.bump t
      · have := bump_len ps t
        omega
      · rw [upd_ne nBD]
        exact hB'
  rintro σ H3 ⟨x, ps, L, rfl, o3, R3, hD3, hc, ht⟩
  refine Evl.q_cut (M := fun σ' H' => ∃ A xs, σ' = [some (.ref r), some (.ref F), some (.int n), some (.int s), some (.ref D), x, some (.ref A)] ∧ Ex H3 H' ∧ H3 A = none ∧ H' A = some (.lst xs) ∧ RpA H' (New H3) xs ((stL n s (rho n s).toNat).map pD)) ?_ ?_
  · unfold sp_step_times
    walk_at "rd"
    have rl := rho_lt (n := (n : Int)) (s := (s : Int)) (by omega) (by omega)
    refine ⟨by omega, by omega, by omega, by omega, fun _ v H' e hv => ?_, fun z => by omega⟩
    cases hv with
    | lst m h a => exact ⟨_, rfl, e, m, _, h, a⟩
  rintro σ H4 ⟨A, xs, rfl, e4, nA, hA, rx⟩
  have rl := rho_lt (n := (n : Int)) (s := (s : Int)) (by omega) (by omega)
  have fs := stD_fine (n := (n : Int)) (s := (s : Int)) (r := (rho n s).toNat) (by omega) (by omega) (by omega) (by omega)
  have pm := hc.perm (n := (n : Int)) (s := (s : Int)) (by omega) (by omega) ht
  refine Evl.q_cut (M := fun σ' H' => σ' = [some (.ref r), some (.ref F), some (.int n), some (.int s), some (.ref D), x, some (.ref A)] ∧ Ex H4 H') ?_ ?_
  · walk_at "rd"
    refine ⟨_, .lst (sq_l hA) rx.dp, fs.1, fs.2, ?_⟩
    simp only [tSortItems]
    walk_at "rd"
    refine ⟨D, ps, rfl, e4 _ _ hD3, fun H' p ts qs e np nt pq sr hp pr => ?_⟩
    have eq := srt_is pq pm sr
    subst eq
    exact ⟨_, .lst (sq_l hp) (paired_rp (S := fun _ => True) pr fun _ _ => trivial).dp, fs.1, fs.2, iteNo (fun z => z rfl) e⟩
  rintro σ H5 ⟨rfl, e5⟩
  refine Evl.q_cut (M := fun σ' H' => σ' = [some (.ref r), some (.ref F), some (.int n), some (.int s), some (.ref D), x, some (.ref A)] ∧ Ex H3 H') ?_ ?_
  · walk_at "rd"
    have hA5 := e5 _ _ hA
    have lx := rx.len
    rw [List.length_map, stL_len] at lx
    exact ⟨⟨_, sq_l hA5⟩, fun p hp => ⟨xs, exn hp _ _ hA5, by omega, Mo.ex_new ((e4.trans e5).trans (exn hp)) nA Mo.upd⟩⟩
  rintro σ H6 ⟨rfl, e6⟩
  unfold sp_step_times
  walk_at "rd"
  refine ⟨by omega, by omega, by omega, by omega, fun _ v H' e hv => ?_, fun z => by omega⟩
  simp only [tSortItems]
  walk_at "rd"
  refine ⟨D, ps, rfl, (e6.trans e) _ _ hD3, fun H'' p ts qs e' np nt pq sr hp pr => ?_⟩
  have eq := srt_is pq pm sr
  subst eq
  refine ⟨_, (hv.ex e').dp, _, .lst (sq_l hp) (paired_rp (S := fun _ => True) pr fun _ _ => trivial).dp, fs.1, fs.1, ?_⟩
  rw [eqv_same fs.1]
  have o9 := o3.trans (Mo.ex (r := r) ((e6.trans e).trans e'))
  exact q _ (o1.trans o9) (((R3.ex e6).ex e).ex e' |>.up (by omega))
def sp_L_is_refused (K : PySem.W.Frag) : Sp := sp2 fun x y H Q _ => ∃ (n s : Int), x = .int n ∧ y = .int s ∧ 1 ≤ n ∧ n ≤ 10 ^ 30 ∧ 1 ≤ s ∧ s ≤ 100 ∧ ∀ H', Ex H H' → Q (.bl (decide (1000 < rho n s))) H'
theorem sc_L_is_refused : FnScope ["_law_n", "_law_s", "_law_limit", "e"] ["_law_n", "_law_s"] (defScope s_L_is_refused) := ⟨rfl, rfl, rfl, by decide +kernel, rfl, by decide +kernel, by decide +kernel⟩
theorem ok_L_is_refused (T : Txt P w K mg base) : GOk P w K mg base (L2.CX P w) 6 T.a_L_is_refused T.fd_L_is_refused ["_law_n", "_law_s"] (sp_L_is_refused K) := by
  refine FunD.gok T.F_L_is_refused sc_L_is_refused (fun vs H Q E h => ar2 h) (fun cdv A fr s H vs Q E hr hc h => ⟨_, PSs.nox (Evl.pss_cut (ps_set (i := 2) sc_L_is_refused.nd rfl (.inl rfl) pe_non) (Evl.pss_cut (ps_try_asV (i := 3) rfl rfl rfl sc_L_is_refused.nd rfl rfl ⟨rfl, by decide, Or.inl (T.er.gl 4 (by decide))⟩ takes0 (fun W pn xe tk po => (pss_one (ps_expr (pe_callGS (ok_step_times T) hr hc (by rfl) T.g_step_times T.F_step_times.kp T.b_step_times (fun σ => passAt tk σ) (pa_cons (pv 0) (pa_cons (pv 1) pa_nil)))))) (fun a pn => (pss_one (ps_set (i := 2) sc_L_is_refused.nd rfl (.inl rfl) (by exact (pe_fldS (pv 3))))))) (pss_one (ps_ret (pe_cmpR op_eq (pv 2) pe_int (nomark _)))))), ?_⟩)
  obtain ⟨_, _, rfl, n, s, rfl, rfl, n1, n2, s1, s2, q⟩ := h
  refine Evl.q_cut (M := fun σ' H' => σ' = [some (.int n), some (.int s), some .non, none] ∧ H = H') ?_ ?_
  · walk_at "rd"
  rintro σ _ ⟨rfl, rfl⟩
  refine Evl.q_cut (M := fun σ' H' => ∃ v, σ' = [some (.int n), some (.int s), some v, none] ∧ Ex H H' ∧ (v = .non ∧ rho n s ≤ 1000 ∨ v = .int 1000 ∧ 1000 < rho n s)) ?_ ?_
  · unfold sp_step_times
    walk_at "rd"
    refine ⟨n1, n2, s1, s2, fun h v H' e _ => ⟨e, h⟩, fun h H' d e n hd => ?_⟩
    refine ⟨true, T.er.exm 4 4 (by decide) (by decide), fun _ a0 ha0 => ?_, fun z => nomatch z⟩
    simp only [tFldV]
    walk_at "rd"
    exact ⟨_, d, rfl, _, exn ha0 _ _ hd, xf_of (T.er.xc 4 (by decide)), T.i_4.no, .int 1000, rfl, e.trans (exn ha0), .inr ⟨rfl, h⟩⟩
  rintro σ H1 ⟨v, rfl, e1, hv⟩
  walk_at "rd"
  rcases hv with ⟨rfl, h⟩ | ⟨rfl, h⟩
  · rw [decide_eq_false (by omega)] at q
    exact ⟨rfl, q _ e1⟩
  · rw [decide_eq_true h] at q
    exact ⟨rfl, by rw [decide_eq_true rfl]; exact q _ e1⟩
/-! ### great tasks -/
theorem stL_row {H : Hp} {S : Addr → Prop} {xs : List V} {n s : Int} {r i : Nat} {x : V} (h : RpA H S xs ((stL n s r).map pD)) (hx : xs[i]? = some x) : ∃ a, x = .ref a ∧ H a = some (.tup [.int ((i : Int) + 1), .int (manyT n s ((i : Int) + 1))]) ∧ i < r := by
  obtain ⟨d, hd, rp⟩ := h.at' hx
  unfold stL at hd
  rw [List.map_map, List.getElem?_map] at hd
  obtain ⟨j, hj, rfl⟩ := Option.map_eq_some_iff.mp hd
  obtain ⟨hl, e⟩ := List.getElem?_eq_some_iff.mp hj
  rw [List.getElem_range] at e
  subst e
  rw [List.length_range] at hl
  obtain ⟨a, rfl, _, ha⟩ := rp_pD rp
  exact ⟨a, rfl, ha, hl⟩
theorem chz_Rz0 {s r : Int} (hr : 0 ≤ r) : chz s r = Rz s r := by
  unfold chz Rz
  rw [if_neg (by omega), if_neg (by omega)]
theorem manyT_full {n s t : Int} (hn : 1 ≤ n) (hs : 1 ≤ s) (h1 : 1 ≤ t) (h2 : t < rho n s) : manyT n s t = chz (s - 1) t := by
  have b1 := rho_least (n := n) (s := s) (q := t - 1) hn hs (by omega) (by omega)
  have b3 := rho_least (n := n) (s := s) (q := t) hn hs (by omega) h2
  have b2 := manyT_min (n := n) (s := s) (k := t - 1) hs (by omega) b1
  rw [show t - 1 + 1 = t by omega] at b2
  rw [chz_Rz0 (by omega)]
  have e : Rz s t = Rz (s - 1) t + Rz s (t - 1) := by
    by_cases h1 : s = 1
    · subst h1
      rw [show (1 : Int) - 1 = 0 by rfl, Rz_zero, Rz_one (by omega), Rz_one (by omega)]
      omega
    · exact Rz_pascal (by omega) (by omega)
  omega
theorem manyT_last {n s : Int} (hn : 1 ≤ n) (hs : 1 ≤ s) (h : rho n s ≠ 0) : 1 ≤ manyT n s (rho n s) ∧ manyT n s (rho n s) ≤ chz (s - 1) (rho n s) := by
  have r0 := rho_nonneg n s
  have b1 := rho_least (n := n) (s := s) (q := rho n s - 1) hn hs (by omega) (by omega)
  have b2 := manyT_min (n := n) (s := s) (k := rho n s - 1) hs (by omega) b1
  rw [show rho n s - 1 + 1 = rho n s by omega] at b2
  have := (manyT_pos (n := n) (s := s) (t := rho n s) hn hs (by omega)).mpr (Int.le_refl _)
  rw [chz_Rz0 (by omega)]
  omega
theorem filt_len (f : Nat → Bool) : ∀ r k : Nat, k ≤ r → (∀ i, i < k → f i = true) → k ≤ ((List.range r).filter f).length
  | 0, k, h, _ => by omega
  | r + 1, k, h, hf => by
    rw [List.range_succ, List.filter_append, List.length_append]
    by_cases hk : k ≤ r
    · have := filt_len f r k hk hf
      omega
    · have := filt_len f r r (Nat.le_refl _) fun i hi => hf i (by omega)
      rw [List.filter_cons_of_pos (hf r (by omega))]
      show k ≤ _ + 1
      omega
theorem nb_pD : ∀ {l : List (Int × Int)}, nbAll (l.map pD) = true
  | [] => rfl
  | p :: l => by
    show (nb (pD p) && nbAll (l.map pD)) = true
    rw [nb_pD]
    rfl
theorem stL_map {α : Type} {n s : Int} {r : Nat} (f : Int × Int → α) : (stL n s r).map f = (List.range r).map fun (i : Nat) => f ((i : Int) + 1, manyT n s ((i : Int) + 1)) := by
  unfold stL
  rw [List.map_map]
  rfl
theorem filter_true {α : Type} (l : List α) : l.filter (fun _ => true) = l := List.filter_eq_self.mpr fun _ _ => rfl
def sp_L_great_right (K : PySem.W.Frag) : Sp := sp1 fun x H Q _ => ∃ (r : Addr) (m : Int), x = .ref r ∧ Reel H r m ∧ m ≤ 10 ^ 40 ∧ ∀ H', Mo r H H' → Reel H' r (m + 8) → Q (.bl true) H'
theorem sc_L_great_right : FnScope ["_law_reel", "_law_n", "_law_s", "_law_r", "_law_told", "_law_full", "_law_last", "_law_times_here", "_law_many"] ["_law_reel"] (defScope s_L_great_right) := ⟨rfl, rfl, rfl, by decide +kernel, rfl, by decide +kernel, by decide +kernel⟩
theorem ok_L_great_right (T : Txt P w K mg base) : GOk P w K mg base (L2.CX P w) 7 T.a_L_great_right T.fd_L_great_right ["_law_reel"] (sp_L_great_right K) := by
  refine FunD.gok T.F_L_great_right sc_L_great_right (fun vs H Q E h => ar1 h) (fun cdv A fr s H vs Q E hr hc h => ⟨_, PSs.nox (Evl.pss_cut (ps_asg (pe_callG (ok_L_great T) (hr.mono (by decide)) hc (by rfl) T.g_L_great T.F_L_great.kp T.b_L_great .nil passL (pa_cons (pv 0) pa_nil)) (pg_tupT (n := 2) rfl (pgs_cons (pg_name (i := 1) sc_L_great_right.nd rfl (.inl rfl)) (pgs_cons (pg_name (i := 2) sc_L_great_right.nd rfl (.inr rfl)) pgs_nil)))) (Evl.pss_cut (ps_set (i := 3) sc_L_great_right.nd rfl (.inl rfl) (pe_callG (ok_L_rounds T) (hr.mono (by decide)) hc (by rfl) T.g_L_rounds T.F_L_rounds.kp T.b_L_rounds .nil passL (pa_cons (pv 1) (pa_cons (pv 2) pa_nil)))) (Evl.pss_cut (ps_if (pt_cmpR op_gt (pv 3) pe_int (nomark _)) (pss_one (ps_ret (pe_callG (ok_L_is_refused T) hr hc (by rfl) T.g_L_is_refused T.F_L_is_refused.kp T.b_L_is_refused .nil passL (pa_cons (pv 1) (pa_cons (pv 2) pa_nil))))) pss_nil) (Evl.pss_cut (ps_set (i := 4) sc_L_great_right.nd rfl (.inl rfl) (pe_callG (ok_step_times T) (hr.mono (by decide)) hc (by rfl) T.g_step_times T.F_step_times.kp T.b_step_times .nil passL (pa_cons (pv 1) (pa_cons (pv 2) pa_nil)))) (Evl.pss_cut (ps_if (pt_cmpR op_ne (pe_callB (r := rSum K) (cr_sum rfl) (by rfl) T.n_sum (by decide +kernel) (pa_cons (pe_lc (own := [("_law_times_here", 7), ("_law_many", 8)]) rfl sc_L_great_right.nd (pi_list (pv 4)) (blkOk_by (N := ["_law_reel", "_law_n", "_law_s", "_law_r", "_law_told", "_law_full", "_law_last", "_law_times_here", "_law_many"]) (sc := defScope s_L_great_right) (by decide +kernel)) (fun _ _ _ _ _ => (pg_tupT (n := 2) rfl (pgs_cons (pg_name (i := 7) sc_L_great_right.nd rfl (Or.inl rfl)) (pgs_cons (pg_name (i := 8) sc_L_great_right.nd rfl (Or.inl rfl)) pgs_nil)))) (fun _ _ _ _ _ => pts_nil) (fun _ _ _ _ _ => (pv 8))) pa_nil)) (pe_op op_sub (pv 1) pe_int) (nomark _)) (pss_one (ps_ret pe_bl)) pss_nil) (Evl.pss_cut (ps_if (pt_cmpR op_ne (pe_callB (r := rSum K) (cr_sum rfl) (by rfl) T.n_sum (by decide +kernel) (pa_cons (pe_lc (own := [("_law_times_here", 7), ("_law_many", 8)]) rfl sc_L_great_right.nd (pi_list (pv 4)) (blkOk_by (N := ["_law_reel", "_law_n", "_law_s", "_law_r", "_law_told", "_law_full", "_law_last", "_law_times_here", "_law_many"]) (sc := defScope s_L_great_right) (by decide +kernel)) (fun _ _ _ _ _ => (pg_tupT (n := 2) rfl (pgs_cons (pg_name (i := 7) sc_L_great_right.nd rfl (Or.inl rfl)) (pgs_cons (pg_name (i := 8) sc_L_great_right.nd rfl (Or.inl rfl)) pgs_nil)))) (fun _ _ _ _ _ => pts_nil) (fun _ _ _ _ _ => (pe_op op_mulB (pv 7) (pv 8)))) pa_nil)) (pe_callG (ok_least_steps T) (hr.mono (by decide)) hc (by rfl) T.g_least_steps T.F_least_steps.kp T.b_least_steps .nil passL (pa_cons (pv 1) (pa_cons (pv 2) pa_nil))) (nomark _)) (pss_one (ps_ret pe_bl)) pss_nil) (Evl.pss_cut (ps_if (pt_cmpR (r := rNeF K) (op_neF hr) (pe_lc (own := [("_law_times_here", 7), ("_law_many", 8)]) rfl sc_L_great_right.nd (pi_list (pv 4)) (blkOk_by (N := ["_law_reel", "_law_n", "_law_s", "_law_r", "_law_told", "_law_full", "_law_last", "_law_times_here", "_law_many"]) (sc := defScope s_L_great_right) (by decide +kernel)) (fun _ _ _ _ _ => (pg_tupT (n := 2) rfl (pgs_cons (pg_name (i := 7) sc_L_great_right.nd rfl (Or.inl rfl)) (pgs_cons (pg_name (i := 8) sc_L_great_right.nd rfl (Or.inl rfl)) pgs_nil)))) (fun _ _ _ _ _ => pts_nil) (fun _ _ _ _ _ => (pv 7))) (pe_listRg rfl (by rfl) T.n_list (prg_2 (by rfl) T.n_range pe_int (pe_op op_add (pv 3) pe_int))) (nomark _)) (pss_one (ps_ret pe_bl)) pss_nil) (Evl.pss_cut (ps_setLc (i := 5) (own := [("_law_times_here", 7), ("_law_many", 8)]) rfl sc_L_great_right.nd rfl rfl (sw_true rfl rfl rfl (by decide +kernel)) (pi_list (pv 4)) (blkOk_by (N := ["_law_reel", "_law_n", "_law_s", "_law_r", "_law_told", "_law_full", "_law_last", "_law_times_here", "_law_many"]) (sc := defScope s_L_great_right) (by decide +kernel)) (fun _ _ _ _ _ => (pg_tupT (n := 2) rfl (pgs_cons (pg_name (i := 7) sc_L_great_right.nd rfl (Or.inl rfl)) (pgs_cons (pg_name (i := 8) sc_L_great_right.nd rfl (Or.inl rfl)) pgs_nil)))) (fun _ _ _ _ _ => (pts_one (pt_cmpR op_eq (pv 8) (pe_callG (ok_L_choose T) (hr.mono (by decide)) hc (by rfl) T.g_L_choose T.F_L_choose.kp T.b_L_choose .nil passL (pa_cons (pe_op op_sub (pv 2) pe_int) (pa_cons (pv 7) pa_nil))) (nomark _)))) (fun _ _ _ _ _ => (pv 8))) (Evl.pss_cut (ps_set (i := 6) sc_L_great_right.nd rfl (.inl rfl) (pe_ifExp (pt_cmpR (r := rNeF K) (op_neF hr) (pv 4) (pe_lst pa_nil) (nomark _)) (pe_ix ix_tupT (pe_ix ix_listT (pv 4) (pe_un un_neg pe_int) (fun _ _ => rfl)) pe_int (fun _ _ => rfl)) pe_int)) (pss_one (ps_ret (pe_and (pe_cmpR op_ge (pe_callB (r := rLenQ K) call_lenQ (by rfl) T.n_len (by decide +kernel) (pa_cons (pv 5) pa_nil)) (pe_op op_sub (pv 3) pe_int) (nomark _)) (pe_and (pe_or (pe_cmpR op_eq (pv 3) pe_int (nomark _)) (pe_one (pe_chain op_le op_le pe_int (pv 6) (pe_callG (ok_L_choose T) (hr.mono (by decide)) hc (by rfl) T.g_L_choose T.F_L_choose.kp T.b_L_choose .nil passL (pa_cons (pe_op op_sub (pv 2) pe_int) (pa_cons (pv 3) pa_nil)))))) (pe_one (pe_not (pe_callG (ok_L_is_refused T) hr hc (by rfl) T.g_L_is_refused T.F_L_is_refused.kp T.b_L_is_refused .nil passL (pa_cons (pv 1) (pa_cons (pv 2) pa_nil)))))))))))))))))), ?_⟩)
  obtain ⟨_, rfl, r, m, rfl, hR, hm, q⟩ := h
  refine Evl.q_cut (M := fun σ' H' => ∃ n s : Int, σ' = [some (.ref r), some (.int n), some (.int s), none, none, none, none, none, none] ∧ Mo r H H' ∧ Reel H' r (m + 8) ∧ 1 ≤ n ∧ n ≤ 10 ^ 30 ∧ 1 ≤ s ∧ s ≤ 100) ?_ ?_
  · unfold sp_L_great
    walk_at "rd"
    refine ⟨m, hR, by omega, fun n s p H1 n1 n2 s1 s2 o1 R1 hp np h1 => ?_⟩
    simp only [h1]
    walk_at "rd"
    exact ⟨o1, R1, n1, n2, s1, s2⟩
  rintro σ H1 ⟨n, s, rfl, o1, R1, n1, n2, s1, s2⟩
  refine Evl.q_cut (M := fun σ' H' => σ' = [some (.ref r), some (.int n), some (.int s), some (.int (rho n s)), none, none, none, none, none] ∧ Ex H1 H') ?_ ?_
  · unfold sp_L_rounds
    walk_at "rd"
    exact ⟨n1, n2, s1, by omega, fun H' e => e⟩
  rintro σ H2 ⟨rfl, e2⟩
  have fin : ∀ H', Ex H2 H' → Q (.bl true) H' := fun H' e => q H' (o1.trans (Mo.ex (e2.trans e))) ((R1.ex e2).ex e)
  refine Evl.q_cut (M := fun σ' H' => σ' = [some (.ref r), some (.int n), some (.int s), some (.int (rho n s)), none, none, none, none, none] ∧ H2 = H' ∧ rho n s ≤ 1000) ?_ ?_
  · unfold sp_L_is_refused
    walk_at "rd"
    refine ite2 (fun h => ⟨n1, n2, s1, s2, fun H' e => ?_⟩) fun h => by omega
    rw [decide_eq_true h]
    exact fin H' e
  rintro σ _ ⟨rfl, rfl, hr⟩
  have r0 := rho_nonneg n s
  have fs := stD_fine (r := (rho n s).toNat) n1 n2 s1 (by omega)
  refine Evl.q_cut (M := fun σ' H' => ∃ A xs, σ' = [some (.ref r), some (.int n), some (.int s), some (.int (rho n s)), some (.ref A), none, none, none, none] ∧ Ex H2 H' ∧ H' A = some (.lst xs) ∧ RpA H' (fun _ => True) xs ((stL n s (rho n s).toNat).map pD)) ?_ ?_
  · unfold sp_step_times
    walk_at "rd"
    refine ⟨n1, n2, s1, s2, fun _ v H' e hv => ?_, fun z => by omega⟩
    cases hv with
    | lst m h a => exact ⟨_, rfl, e, _, h, a.sub fun _ _ => trivial⟩
  rintro σ H3 ⟨A, xs, rfl, e3, hA, rx⟩
  have lx := rx.len
  rw [List.length_map, stL_len] at lx
  have hM := med_200
  refine Evl.q_cut (M := fun σ' H' => σ' = [some (.ref r), some (.int n), some (.int s), some (.int (rho n s)), some (.ref A), none, none, none, none] ∧ Ex H3 H') ?_ ?_
  · walk_at "rd"
    simp only [tLc_lst]
    walk_at "rd"
    refine lcL_g (sq_l hA) (fun _ => true) (fun (i : Nat) => .int (manyT n s ((i : Int) + 1))) (by omega) ?_ ?_
    · intro i x H4 hx e4 R Rt k1 k2
      obtain ⟨a, rfl, ha, hi⟩ := stL_row (rx.ex e4) hx
      simp only [wipe]
      walk_at "rd"
      exact ⟨_, ha, rfl, _, _, rfl, _, _, rfl, rfl, by unfold tYes; exact iteY rfl (k2 rfl _ H4 (.refl _) (.int _))⟩
    · intro v H4 e4 hv
      rw [filter_true, lx, ← stL_map (fun p => PyData.int p.2)] at hv
      have el : (stL n s (rho n s).toNat).map (fun p => PyData.int p.2) = ((stL n s (rho n s).toNat).map (·.2)).map PyData.int := by rw [List.map_map]; rfl
      rw [el] at hv
      obtain ⟨L, rfl, nL, hL⟩ := hv.ints
      refine ⟨L, _, rfl, sq_l hL, rfl, ?_⟩
      rw [stL_all n1 s1]
      exact iteN rfl e4
  rintro σ H4 ⟨rfl, e4⟩
  refine Evl.q_cut (M := fun σ' H' => σ' = [some (.ref r), some (.int n), some (.int s), some (.int (rho n s)), some (.ref A), none, none, none, none] ∧ Ex H3 H') ?_ ?_
  · walk_at "rd"
    simp only [tLc_lst]
    walk_at "rd"
    refine lcL_g (sq_l (e4 _ _ hA)) (fun _ => true) (fun (i : Nat) => .int (((i : Int) + 1) * manyT n s ((i : Int) + 1))) (by omega) ?_ ?_
    · intro i x H5 hx e5 R Rt k1 k2
      obtain ⟨a, rfl, ha, hi⟩ := stL_row (rx.ex (e4.trans e5)) hx
      simp only [wipe]
      walk_at "rd"
      have ml := manyT_le (n := n) (s := s) (t := (i : Int) + 1) s1 (by omega) n1
      have hB := big_200
      exact ⟨_, ha, rfl, _, _, rfl, _, _, rfl, rfl, by unfold tYes; exact iteY rfl ⟨_, rfl, _, rfl, by unfold CMulB; omega, k2 rfl _ H5 (.refl _) (.int _)⟩⟩
    · intro v H5 e5 hv
      rw [filter_true, lx, ← stL_map (fun p => PyData.int (p.1 * p.2))] at hv
      have el : (stL n s (rho n s).toNat).map (fun p => PyData.int (p.1 * p.2)) = ((stL n s (rho n s).toNat).map (fun p => p.1 * p.2)).map PyData.int := by rw [List.map_map]; rfl
      rw [el] at hv
      obtain ⟨L, rfl, nL, hL⟩ := hv.ints
      unfold sp_least_steps
      walk_at "rd"
      refine ⟨L, _, rfl, sq_l hL, n1, n2, s1, s2, fun H6 e6 => ⟨rfl, ?_⟩⟩
      rw [stL_steps n1 s1]
      exact iteN rfl ((e4.trans e5).trans e6)
  rintro σ H5 ⟨rfl, e5⟩
  refine Evl.q_cut (M := fun σ' H' => σ' = [some (.ref r), some (.int n), some (.int s), some (.int (rho n s)), some (.ref A), none, none, none, none] ∧ Ex H3 H') ?_ ?_
  · walk_at "rd"
    simp only [tLc_lst]
    walk_at "rd"
    refine lcL_g (sq_l (e5 _ _ hA)) (fun _ => true) (fun (i : Nat) => .int ((i : Int) + 1)) (by omega) ?_ ?_
    · intro i x H6 hx e6 R Rt k1 k2
      obtain ⟨a, rfl, ha, hi⟩ := stL_row (rx.ex (e5.trans e6)) hx
      simp only [wipe]
      walk_at "rd"
      exact ⟨_, ha, rfl, _, _, rfl, _, _, rfl, rfl, by unfold tYes; exact iteY rfl (k2 rfl _ H6 (.refl _) (.int _))⟩
    · intro v H6 e6 hv
      rw [filter_true, lx] at hv
      have el : (List.range (rho n s).toNat).map (fun (i : Nat) => PyData.int ((i : Int) + 1)) = ((List.range (rho n s).toNat).map fun (i : Nat) => (i : Int) + 1).map PyData.int := by rw [List.map_map]; rfl
      rw [el] at hv
      have er : rgV 1 (rho n s + 1) = ((List.range (rho n s).toNat).map fun (i : Nat) => (i : Int) + 1).map V.int := by
        unfold rgV
        rw [List.map_map, show (rho n s + 1 - 1).toNat = (rho n s).toNat by omega]
        exact List.map_congr_left fun i _ => congrArg V.int (by show 1 + (i : Int) = (i : Int) + 1; omega)
      have f := (lst_fine (ns := (List.range (rho n s).toNat).map fun (i : Nat) => (i : Int) + 1) (fun i hi => by
        obtain ⟨j, hj, rfl⟩ := List.mem_map.mp hi
        have := List.mem_range.mp hj
        omega) (by rw [List.length_map, List.length_range]; omega)).1
      rw [er]
      refine ⟨RgOk.of_le (by omega) (by omega) (by omega) (by omega), fun p hp => ⟨_, (hv.ex (exn hp)).dp, _, dp_lst upd_same, f, f, ?_⟩⟩
      rw [eqv_same f]
      exact iteTF ((e5.trans e6).trans (exn hp))
  rintro σ H6 ⟨rfl, e6⟩
  refine Evl.q_cut (M := fun σ' H' => ∃ B fs, σ' = [some (.ref r), some (.int n), some (.int s), some (.int (rho n s)), some (.ref A), some (.ref B), none, none, none] ∧ Ex H3 H' ∧ H' B = some (.lst fs) ∧ rho n s - 1 ≤ fs.length) ?_ ?_
  · walk_at "rd"
    simp only [tLc_lst]
    walk_at "rd"
    refine lcL_g (sq_l (e6 _ _ hA)) (fun (i : Nat) => decide (manyT n s ((i : Int) + 1) = chz (s - 1) ((i : Int) + 1))) (fun (i : Nat) => .int (manyT n s ((i : Int) + 1))) (by omega) ?_ ?_
    · intro i x H7 hx e7 R Rt k1 k2
      obtain ⟨a, rfl, ha, hi⟩ := stL_row (rx.ex (e6.trans e7)) hx
      simp only [wipe]
      unfold sp_L_choose
      walk_at "rd"
      refine ⟨_, ha, rfl, _, _, rfl, _, _, rfl, rfl, _, rfl, by omega, by omega, by omega, by omega, rfl, ite2 (fun h => ?_) fun h => ?_⟩
      · exact k2 (decide_eq_true (V.int.inj h)) _ H7 (.refl _) (.int _)
      · exact k1 (decide_eq_false fun z => h (congrArg V.int z)) H7 (.refl _)
    · intro v H7 e7 hv
      cases hv with
      | lst m h a =>
        refine ⟨_, rfl, e6.trans e7, _, h, ?_⟩
        have la := a.len
        rw [List.length_map, lx] at la
        have := filt_len (fun (i : Nat) => decide (manyT n s ((i : Int) + 1) = chz (s - 1) ((i : Int) + 1))) (rho n s).toNat ((rho n s).toNat - 1) (by omega) fun i hi => decide_eq_true (manyT_full n1 s1 (by omega) (by omega))
        omega
  rintro σ H7 ⟨B, fl, rfl, e7, hB, lB⟩
  refine Evl.q_cut (M := fun σ' H' => σ' = [some (.ref r), some (.int n), some (.int s), some (.int (rho n s)), some (.ref A), some (.ref B), some (.int (if rho n s = 0 then 0 else manyT n s (rho n s))), none, none] ∧ Ex H7 H') ?_ ?_
  · walk_at "rd"
    intro p hp
    have ep := exn (o := .lst []) hp
    have hA7 := ep _ _ (e7 _ _ hA)
    refine ⟨_, .lst (sq_l hA7) ((rx.ex e7).ex ep).dp, .list [], .lst (sq_l upd_same) .nil, fs.1, by decide +kernel, ?_⟩
    by_cases h0 : rho n s = 0
    · have e0 : (stL n s (rho n s).toNat).map pD = [] := by rw [h0]; rfl
      rw [e0, h0]
      exact iteNo (by decide) ⟨rfl, ep⟩
    · refine iteY (eqv_ne (by simpa only [nb] using nb_pD) (by decide) fun z => ?_) ?_
      · have z1 := congrArg List.length (PyData.list.inj z)
        rw [List.length_map, stL_len] at z1
        have : (rho n s).toNat = 0 := z1
        omega
      · have hx : xs[xs.length - 1]? = some xs[xs.length - 1] := List.getElem?_eq_getElem (by omega)
        obtain ⟨a, ea, ha, hi⟩ := stL_row ((rx.ex e7).ex ep) hx
        rw [ea] at hx
        have ei : ((xs.length - 1 : Nat) : Int) + 1 = rho n s := by omega
        rw [ei] at ha
        rw [if_neg h0]
        exact ⟨_, hA7, _, atI_m1 hx, a, rfl, _, ha, _, atI_1, rfl, ep⟩
  rintro σ H8 ⟨rfl, e8⟩
  unfold sp_L_choose sp_L_is_refused
  walk_at "rd"
  have fin8 : ∀ H', Ex H8 H' → Q (.bl !decide (1000 < rho n s)) H' := fun H' e => by
    rw [decide_eq_false (by omega)]
    exact fin H' (((e3.trans e7).trans e8).trans e)
  refine ⟨fl, .inl (sq_l (e8 _ _ hB)), iteY lB (ite2 (fun h0 => ⟨n1, n2, s1, s2, fin8⟩) fun h0 => ?_)⟩
  have ml := manyT_last n1 s1 h0
  rw [if_neg h0]
  exact iteY ml.1 ⟨by omega, by omega, by omega, by omega, iteY ml.2 ⟨n1, n2, s1, s2, fin8⟩⟩
theorem R_two (r : Nat) : 2 * R 2 r = (r + 1) * (r + 2) := by
  induction r with
  | zero => rfl
  | succ r ih =>
    have ih : 2 * R (1 + 1) r = (r + 1) * (r + 2) := ih
    show 2 * R (1 + 1) (r + 1) = _
    rw [R_ss 1 r, R_one]
    have : (r + 1 + 1) * (r + 1 + 2) = (r + 1) * (r + 2) + 2 * (r + 2) := by
      rw [show r + 1 + 1 = r + 2 by omega, show r + 1 + 2 = (r + 1) + 2 by omega, Nat.mul_add, Nat.mul_comm (r + 2) (r + 1), Nat.mul_comm (r + 2) 2]
    omega
theorem Rz_two (r : Nat) : 2 * Rz 2 r = ((r + 1) * (r + 2) : Nat) := by
  rw [show (2 : Int) = ((2 : Nat) : Int) from rfl, Rz_nat]
  have := R_two r
  omega
theorem rho_1 {n : Int} (h : 1 ≤ n) : rho n 1 = n - 1 := by
  refine rho_eq h (by decide) (by omega) ?_ ?_
  · rw [Rz_one (by omega)]
    omega
  · by_cases h1 : n = 1
    · subst h1
      rw [show (1 : Int) - 1 - 1 = -1 by rfl, Rz_neg (by decide)]
      decide
    · rw [Rz_one (by omega)]
      omega
theorem rho_big : rho 501501 2 = 1000 := by
  refine rho_eq (by decide) (by decide) (by decide) ?_ ?_
  · have := Rz_two 1000
    rw [show ((1000 : Nat) : Int) = 1000 from rfl] at this
    omega
  · have := Rz_two 999
    rw [show ((999 : Nat) : Int) = 1000 - 1 from rfl] at this
    omega
theorem st_big : (stL 501501 2 1000).map pD = (List.range 1000).map fun (i : Nat) => pD (1 + (i : Int), 1 + (i : Int) + 1) := by
  rw [stL_map]
  refine List.map_congr_left fun i hi => ?_
  have hi := List.mem_range.mp hi
  have m : manyT 501501 2 ((i : Int) + 1) = (i : Int) + 2 := by
    have h9 := Rz_two 1000
    have hm := Rz_mono (s := 2) (r := (i : Int) + 1) (r' := ((1000 : Nat) : Int)) (by decide) (by omega) (by omega)
    have hm2 := Rz_mono (s := 2) (r := (i : Int)) (r' := (i : Int) + 1) (by decide) (by omega) (by omega)
    have hp := Rz_pascal (s := 2) (r := (i : Int) + 1) (by decide) (by omega)
    rw [show (2 : Int) - 1 = 1 by rfl, Rz_one (by omega), show (i : Int) + 1 - 1 = i by omega] at hp
    unfold manyT
    rw [show (i : Int) + 1 - 1 = i by omega]
    omega
  rw [m, show (i : Int) + 1 = 1 + (i : Int) by omega, show (i : Int) + 2 = 1 + (i : Int) + 1 by omega]
def sp_law (K : PySem.W.Frag) : Sp := sp1 fun x H Q _ => ∃ (a : Addr) (ns : List Int), x = .ref a ∧ SqL K H a (ns.map V.int) ∧ ns.length ≤ 63 ∧ ∀ H', Q (.bl true) H'
theorem sc_law : FnScope ["_law_script", "_law_table_here", "_law_k", "_law_reel", "_law_turn", "_law_times_here"] ["_law_script"] (defScope s_law) := ⟨rfl, rfl, rfl, by decide +kernel, rfl, by decide +kernel, by decide +kernel⟩
theorem ok_law (T : Txt P w K mg base) : GOk P w K mg base (L2.CX P w) 77 T.a_law T.fd_law ["_law_script"] (sp_law K) := by
  refine FunD.gok T.F_law sc_law (fun vs H Q E h => ar1 h) (fun cdv A fr s H vs Q E hr hc h => ⟨_, PSs.nox (Evl.pss_cut (ps_set (i := 1) sc_law.nd rfl (.inl rfl) (pe_callG (ok_L_table T) (hr.mono (by decide)) hc (by rfl) T.g_L_table T.F_L_table.kp T.b_L_table .nil passL (pa_cons pe_int (pa_cons pe_int pa_nil)))) (Evl.pss_cut (ps_for PassesOwn.never rfl (pi_range1 (by rfl) T.n_range (pa_cons (pe_callB (call_max2 rfl) (by rfl) T.n_max (by decide +kernel) (pa_cons pe_int (pa_cons (pe_callB (call_min2 rfl) (by rfl) T.n_min (by decide +kernel) (pa_cons pe_int (pa_cons (pe_callB (r := rLenQ K) call_lenQ (by rfl) T.n_len (by decide +kernel) (pa_cons (pv 0) pa_nil)) pa_nil))) pa_nil))) pa_nil)) (pg_name (i := 2) sc_law.nd rfl (.inl rfl)) (pss_cons (ps_set (i := 3) sc_law.nd rfl (.inl rfl) (pe_callG (ok_L_wound T) (hr.mono (by decide)) hc (by rfl) T.g_L_wound T.F_L_wound.kp T.b_L_wound .nil passL (pa_cons (pv 0) (pa_cons (pv 2) pa_nil)))) (pss_one (ps_for PassesOwn.never rfl (pi_range1 (by rfl) T.n_range (pa_cons pe_int pa_nil)) (pg_name (i := 4) sc_law.nd rfl (.inl rfl)) (pss_one (ps_if (PW.pt (pw_or (pt_not (pt_val (pe_callG (ok_L_small_right T) hr hc (by rfl) T.g_L_small_right T.F_L_small_right.kp T.b_L_small_right .nil passL (pa_cons (pv 3) (pa_cons (pv 1) pa_nil))))) (pw_or1 (pt_not (pt_val (pe_callG (ok_L_great_right T) (hr.mono (by decide)) hc (by rfl) T.g_L_great_right T.F_L_great_right.kp T.b_L_great_right .nil passL (pa_cons (pv 3) pa_nil))))))) (pss_one (ps_ret pe_bl)) pss_nil)))))) (Evl.pss_cut (ps_if (pt_cmpR (r := rNeF K) (op_neF hr) (pe_lst (pa_cons (pe_callG (ok_step_times T) (hr.mono (by decide)) hc (by rfl) T.g_step_times T.F_step_times.kp T.b_step_times .nil passL (pa_cons pe_int (pa_cons pe_int pa_nil))) (pa_cons (pe_callG (ok_step_times T) (hr.mono (by decide)) hc (by rfl) T.g_step_times T.F_step_times.kp T.b_step_times .nil passL (pa_cons pe_int (pa_cons pe_int pa_nil))) (pa_cons (pe_callG (ok_step_times T) (hr.mono (by decide)) hc (by rfl) T.g_step_times T.F_step_times.kp T.b_step_times .nil passL (pa_cons pe_int (pa_cons pe_int pa_nil))) pa_nil)))) (pe_lst (pa_cons (pe_lst (pa_cons (pe_tup (pa_cons pe_int (pa_cons pe_int pa_nil))) (pa_cons (pe_tup (pa_cons pe_int (pa_cons pe_int pa_nil))) pa_nil))) (pa_cons (pe_lst (pa_cons (pe_tup (pa_cons pe_int (pa_cons pe_int pa_nil))) (pa_cons (pe_tup (pa_cons pe_int (pa_cons pe_int pa_nil))) pa_nil))) (pa_cons (pe_lst pa_nil) pa_nil)))) (nomark _)) (pss_one (ps_ret pe_bl)) pss_nil) (Evl.pss_cut (ps_if (pt_cmpR (r := rNeF K) (op_neF hr) (pe_callG (ok_step_times T) (hr.mono (by decide)) hc (by rfl) T.g_step_times T.F_step_times.kp T.b_step_times .nil passL (pa_cons pe_int (pa_cons pe_int pa_nil))) (pe_lc (own := [("_law_times_here", 5)]) rfl sc_law.nd (pi_range2 (by rfl) T.n_range (pa_cons pe_int (pa_cons pe_int pa_nil))) (blkOk_by (N := ["_law_script", "_law_table_here", "_law_k", "_law_reel", "_law_turn", "_law_times_here"]) (sc := defScope s_law) (by decide +kernel)) (fun _ _ _ _ _ => (pg_name (i := 5) sc_law.nd rfl (Or.inl rfl))) (fun _ _ _ _ _ => pts_nil) (fun _ _ _ _ _ => (pe_tup (pa_cons (pv 5) (pa_cons (pe_op op_add (pv 5) pe_int) pa_nil))))) (nomark _)) (pss_one (ps_ret pe_bl)) pss_nil) (pss_one (ps_ret (pe_and (pe_not (pe_callG (ok_L_is_refused T) (hr.mono (by decide)) hc (by rfl) T.g_L_is_refused T.F_L_is_refused.kp T.b_L_is_refused .nil passL (pa_cons pe_int (pa_cons pe_int pa_nil)))) (pe_one (pe_callG (ok_L_is_refused T) (hr.mono (by decide)) hc (by rfl) T.g_L_is_refused T.F_L_is_refused.kp T.b_L_is_refused .nil passL (pa_cons pe_int (pa_cons pe_int pa_nil))))))))))), ?_⟩)
  obtain ⟨_, rfl, a, ns, rfl, hS, hl, q⟩ := h
  refine Evl.q_cut (M := fun σ' H' => ∃ F rows, σ' = [some (.ref a), some (.ref F), none, none, none, none] ∧ Ex H H' ∧ H' F = some (.lst rows) ∧ RpA H' (fun _ => True) rows (tabD 8 61)) ?_ ?_
  · unfold sp_L_table
    walk_at "rd"
    refine ⟨60, rfl, 8, rfl, by omega, by omega, by omega, by omega, fun v0 H1 e1 hv0 => ?_⟩
    cases hv0 with
    | lst sf hf rt => exact ⟨_, rfl, e1, _, hf, rt.sub fun _ _ => trivial⟩
  rintro σ H1 ⟨F, rows, rfl, e1, hF, rt⟩
  refine Evl.q_cut (M := fun σ' H' => ∃ x y z, σ' = [some (.ref a), some (.ref F), x, y, z, none] ∧ Ex H1 H') ?_ ?_
  · walk_at "rd"
    apply for_rng1 (if ns.length = 0 then 1 else min 6 ns.length) (Pv := fun i σ H' => Ex H1 H' ∧ ∃ x y z, σ = [some (.ref a), some (.ref F), x, y, z, none])
    · intro R q
      walk_at "rd"
      refine ⟨_, .inl (Evl.ex_l e1 hS), ?_⟩
      exact q
    · rw [List.length_map]; split <;> split <;> split <;> omega
    · rw [List.length_map]; split <;> split <;> omega
    · exact ⟨Evl.Ex.refl _, _, _, _, rfl⟩
    · rintro σ H3 ⟨e3, x, y, z, rfl⟩
      exact ⟨x, y, z, rfl, e3⟩
    · rintro i σ H3 hi ⟨e3, x, y, z, rfl⟩
      unfold sp_L_wound
      walk_at "rd"
      refine ⟨_, _, rfl, Evl.ex_l (e1.trans e3) hS, hl, by split at hi <;> omega, fun r H4 hr4 e4 R4 => ?_⟩
      have nF : F ≠ r := ne_of_none (e3 _ _ hF) hr4
      have rt4 := ((rt.ex e3).off hr4).ex e4
      have hF4 := e4 _ _ (e3 _ _ hF)
      refine for_rng1 6 (fun R q => by walk_at "rd"; exact q) rfl (by omega) (fun j σ H' => Mo r H4 H' ∧ Reel H' r (100 * j) ∧ ∃ x z, σ = [some (.ref a), some (.ref F), x, some (.ref r), z, none]) ⟨Mo.refl _ _, by simpa using R4, _, _, rfl⟩ ?_ ?_
      · rintro σ H5 ⟨o5, _, x, z, rfl⟩
        exact ⟨Mo.ex_new (e3.trans e4) (Evl.fresh_back e3 hr4) o5, _, _, _, rfl⟩
      · rintro j σ H5 hj ⟨o5, R5, x, z, rfl⟩
        unfold sp_L_small_right sp_L_great_right
        walk_at "rd"
        refine ⟨_, R5, by omega, rows, o5 _ _ nF hF4, rt4.keep (fun b o h1 h2 => o5 b o h1.2 h2) (fun b h => h.2), nF, fun H6 o6 R6 => ?_⟩
        exact ⟨100 * (j : Int) + 70, R6, by omega, fun H' o R => ⟨(o5.trans o6).trans o, R.up (by omega)⟩⟩
  rintro σ H2 ⟨x, y, z, rfl, e2⟩
  refine Evl.q_cut (M := fun σ' H' => σ' = [some (.ref a), some (.ref F), x, y, z, none]) ?_ ?_
  · unfold sp_step_times
    walk_at "rd"
    have r1 : rho 10 3 = 2 := by decide +kernel
    have r2 : rho 6 2 = 2 := by decide +kernel
    have r3 : rho 1 4 = 0 := by decide +kernel
    rw [r1, r2, r3]
    have l1 : (stL 10 3 (2 : Int).toNat).map pD = [pD (1, 3), pD (2, 6)] := congrArg (List.map pD) (show stL 10 3 (2 : Int).toNat = [(1, 3), (2, 6)] by decide +kernel)
    have l2 : (stL 6 2 (2 : Int).toNat).map pD = [pD (1, 2), pD (2, 3)] := congrArg (List.map pD) (show stL 6 2 (2 : Int).toNat = [(1, 2), (2, 3)] by decide +kernel)
    have l3 : (stL 1 4 (0 : Int).toNat).map pD = [] := rfl
    rw [l1, l2, l3]
    refine ⟨fun _ v1 H4 e4 w1 => ⟨fun _ v2 H5 e5 w2 => ⟨fun _ v3 H6 e6 w3 => ?_, fun z => absurd z (by decide)⟩, fun z => absurd z (by decide)⟩, fun z => absurd z (by decide)⟩
    intro p0 h0 p1 h1 p2 h2 p3 h3 p4 h4 p5 h5 p6 h6 p7 h7 p8 h8
    have k0 := exn (o := .lst [v1, v2, v3]) h0
    have k1 := exn (o := .tup [.int 1, .int 3]) h1
    have k2 := exn (o := .tup [.int 2, .int 6]) h2
    have k3 := exn (o := .lst [.ref p1, .ref p2]) h3
    have k4 := exn (o := .tup [.int 1, .int 2]) h4
    have k5 := exn (o := .tup [.int 2, .int 3]) h5
    have k6 := exn (o := .lst [.ref p4, .ref p5]) h6
    have k7 := exn (o := .lst []) h7
    have k8 := exn (o := .lst [.ref p3, .ref p6, .ref p7]) h8
    have e78 := k7.trans k8
    have e68 := k6.trans e78
    have e58 := k5.trans e68
    have e48 := k4.trans e58
    have e38 := k3.trans e48
    have e28 := k2.trans e38
    have e18 := k1.trans e28
    have f : fine 20 (.list [.list [pD (1, 3), pD (2, 6)], .list [pD (1, 2), pD (2, 3)], .list []]) = true := by decide +kernel
    have z1 := e28 _ _ (upd_same (a := p1))
    have z2 := e38 _ _ (upd_same (a := p2))
    have z3 := e48 _ _ (upd_same (a := p3))
    have z4 := e58 _ _ (upd_same (a := p4))
    have z5 := e68 _ _ (upd_same (a := p5))
    have z6 := e78 _ _ (upd_same (a := p6))
    have z7 := k8 _ _ (upd_same (a := p7))
    have z0 := e18 _ _ (upd_same (a := p0))
    have w1 := ((w1.ex (e5.trans e6)).ex (k0.trans e18)).dp (K := K)
    have w2 := ((w2.ex e6).ex (k0.trans e18)).dp (K := K)
    have w3 := (w3.ex (k0.trans e18)).dp (K := K)
    refine ⟨_, .lst (sq_l z0) (.cons w1 (.cons w2 (.cons w3 .nil))), _, .lst (sq_l upd_same) (.cons (.lst (sq_l z3) (.cons (.tup (sq_t z1) (.cons (.int 1) (.cons (.int 3) .nil))) (.cons (.tup (sq_t z2) (.cons (.int 2) (.cons (.int 6) .nil))) .nil)))
      (.cons (.lst (sq_l z6) (.cons (.tup (sq_t z4) (.cons (.int 1) (.cons (.int 2) .nil))) (.cons (.tup (sq_t z5) (.cons (.int 2) (.cons (.int 3) .nil))) .nil))) (.cons (.lst (sq_l z7) .nil) .nil))), f, f, ?_⟩
    exact iteNo (by rw [show PyData.eqv (.list [.list [pD (1, 3), pD (2, 6)], .list [pD (1, 2), pD (2, 3)], .list []]) (.list [.list [.tuple [.int 1, .int 3], .tuple [.int 2, .int 6]], .list [.tuple [.int 1, .int 2], .tuple [.int 2, .int 3]], .list []]) = true from eqv_same f]; decide) trivial
  rintro σ H3 rfl
  refine Evl.q_cut (M := fun σ' H' => σ' = [some (.ref a), some (.ref F), x, y, z, none]) ?_ ?_
  · unfold sp_step_times
    walk_at "rd"
    rw [rho_big]
    refine ⟨fun _ v H' e hv => ?_, fun z => absurd z (by decide)⟩
    have ev : (stL 501501 2 (1000 : Int).toNat).map pD = (List.range 1000).map fun (i : Nat) => pD (1 + (i : Int), 1 + (i : Int) + 1) := st_big
    have f := (stD_fine (n := 501501) (s := 2) (r := 1000) (by decide) (by decide) (by decide) (by decide)).1
    rw [st_big] at f
    rw [ev] at hv
    refine lc_rng2 (lo := 1) (n := 1000) (fun (i : Nat) => pD (1 + (i : Int), 1 + (i : Int) + 1)) (fun R q => by walk_at "rd"; exact q) (by omega) (by omega) (fun _ => rfl) ?_ ?_
    · intro i H5 hi e5 R k
      simp only [wipe]
      walk_at "rd"
      exact fun p hp => k _ _ (exn hp) (pD_rp hp upd_same)
    · intro w H5 e5 hw
      refine ⟨_, (hv.ex e5).dp, _, hw.dp, f, f, ?_⟩
      rw [eqv_same f]
      exact iteTF trivial
  rintro σ H4 rfl
  unfold sp_L_is_refused
  walk_at "rd"
  rw [rho_1 (by decide), rho_1 (by decide)]
  have e1 : decide ((1000 : Int) < 1002 - 1) = true := by decide
  rw [e1]
  exact fun H' e => iteY (show ¬ (1000 : Int) < 1001 - 1 by decide) fun H'' e' => q H''
end
def d_is_int : He.DefD := ⟨("is_int", none), "is_int", "is_int", defArgs s_is_int, defBody s_is_int, defScope s_is_int, [], []⟩
def d_is_whole : He.DefD := ⟨("is_whole", none), "is_whole", "is_whole", defArgs s_is_whole, defBody s_is_whole, defScope s_is_whole, [], []⟩
def d_TooLarge___init__ : He.DefD := ⟨("TooLarge", some "__init__"), "__init__", "TooLarge.__init__", defArgs s_TooLarge___init__, defBody s_TooLarge___init__, defScope s_TooLarge___init__, [], []⟩
def d_require_length : He.DefD := ⟨("require_length", none), "require_length", "require_length", defArgs s_require_length, defBody s_require_length, defScope s_require_length, [], []⟩
def d_require_slots : He.DefD := ⟨("require_slots", none), "require_slots", "require_slots", defArgs s_require_slots, defBody s_require_slots, defScope s_require_slots, [], []⟩
def d_require_task : He.DefD := ⟨("require_task", none), "require_task", "require_task", defArgs s_require_task, defBody s_require_task, defScope s_require_task, [], []⟩
def d_reach_of : He.DefD := ⟨("reach_of", none), "reach_of", "reach_of", defArgs s_reach_of, defBody s_reach_of, defScope s_reach_of, [], []⟩
def d_rounds_of : He.DefD := ⟨("rounds_of", none), "rounds_of", "rounds_of", defArgs s_rounds_of, defBody s_rounds_of, defScope s_rounds_of, [], []⟩
def d_steps_with : He.DefD := ⟨("steps_with", none), "steps_with", "steps_with", defArgs s_steps_with, defBody s_steps_with, defScope s_steps_with, [], []⟩
def d_least_of : He.DefD := ⟨("least_of", none), "least_of", "least_of", defArgs s_least_of, defBody s_least_of, defScope s_least_of, [], []⟩
def d_least_steps : He.DefD := ⟨("least_steps", none), "least_steps", "least_steps", defArgs s_least_steps, defBody s_least_steps, defScope s_least_steps, [], []⟩
def d_step_times : He.DefD := ⟨("step_times", none), "step_times", "step_times", defArgs s_step_times, defBody s_step_times, defScope s_step_times, [], []⟩
def d_L_wound : He.DefD := ⟨("_law_wound", none), "_law_wound", "_law_wound", defArgs s_L_wound, defBody s_L_wound, defScope s_L_wound, [], []⟩
def d_L_spin : He.DefD := ⟨("_law_spin", none), "_law_spin", "_law_spin", defArgs s_L_spin, defBody s_L_spin, defScope s_L_spin, [], []⟩
def d_L_choose : He.DefD := ⟨("_law_choose", none), "_law_choose", "_law_choose", defArgs s_L_choose, defBody s_L_choose, defScope s_L_choose, [], []⟩
def d_L_rounds : He.DefD := ⟨("_law_rounds", none), "_law_rounds", "_law_rounds", defArgs s_L_rounds, defBody s_L_rounds, defScope s_L_rounds, [], []⟩
def d_L_great : He.DefD := ⟨("_law_great", none), "_law_great", "_law_great", defArgs s_L_great, defBody s_L_great, defScope s_L_great, [], []⟩
def d_L_table : He.DefD := ⟨("_law_table", none), "_law_table", "_law_table", defArgs s_L_table, defBody s_L_table, defScope s_L_table, [], []⟩
def d_L_times : He.DefD := ⟨("_law_times", none), "_law_times", "_law_times", defArgs s_L_times, defBody s_L_times, defScope s_L_times, [], []⟩
def d_L_small_right : He.DefD := ⟨("_law_small_right", none), "_law_small_right", "_law_small_right", defArgs s_L_small_right, defBody s_L_small_right, defScope s_L_small_right, [], []⟩
def d_L_is_refused : He.DefD := ⟨("_law_is_refused", none), "_law_is_refused", "_law_is_refused", defArgs s_L_is_refused, defBody s_L_is_refused, defScope s_L_is_refused, [], []⟩
def d_L_great_right : He.DefD := ⟨("_law_great_right", none), "_law_great_right", "_law_great_right", defArgs s_L_great_right, defBody s_L_great_right, defScope s_L_great_right, [], []⟩
def d_law : He.DefD := ⟨("law", none), "law", "law", defArgs s_law, defBody s_law, defScope s_law, [], []⟩
def fn : List He.DefD := [d_is_int, d_is_whole, d_TooLarge___init__, d_require_length, d_require_slots, d_require_task, d_reach_of, d_rounds_of, d_steps_with, d_least_of, d_least_steps, d_step_times, d_L_wound, d_L_spin, d_L_choose, d_L_rounds, d_L_great, d_L_table, d_L_times, d_L_small_right, d_L_is_refused, d_L_great_right, d_law]
def fa : List He.Fa := [.glo "is_int", .glo "is_whole", .glo "require_length", .glo "require_slots", .glo "require_task", .glo "reach_of", .glo "rounds_of", .glo "steps_with", .glo "least_of", .glo "least_steps", .glo "step_times", .glo "_law_wound", .glo "_law_spin", .glo "_law_choose", .glo "_law_rounds", .glo "_law_great", .glo "_law_table", .glo "_law_times", .glo "_law_small_right", .glo "_law_is_refused", .glo "_law_great_right", .glo "law", .free "isinstance", .free "int", .free "bool", .free "range", .free "min", .free "len", .free "max", .free "list", .free "enumerate", .free "repr", .free "sorted", .free "sum", .int "MOST_LENGTH" (1000000000000000000000000000000), .int "MOST_SLOTS" (100), .int "MOST_ROUNDS" (1000)]
abbrev RowR : PySem.W.OpenRow := PySem.W.OpenLaw.row PySem.Challenge.rw_backslots_k06_times_of_steps
def cs : List (PySem.W.Frag → Bool) := [errIB [4, 7, 8, 17], sysB, fun K => initB K 4 "limit"]
abbrev hk : PySem.W.Hook := hookX 6 cs fa fn
def ob (s : PySem.W.SharedT) : Bool × He.AlD := obX 6 cs fa fn (HandSHeadRun.getT s)
theorem ob_eq (s : PySem.W.SharedT) : ob s = hk.obs s.abs := obX_eq (HandSHeadRun.getT_eq s)
def loose : List Str := (["is_int", "is_whole", "SlotError", "TooLarge", "InvalidLength", "InvalidSlots", "MOST_LENGTH", "MOST_SLOTS", "MOST_ROUNDS", "require_length", "require_slots", "require_task", "reach_of", "rounds_of", "steps_with", "least_of", "least_steps", "step_times", "_law_wound", "_law_spin", "_law_choose", "_law_rounds", "_law_great", "_law_table", "_law_times", "_law_small_right", "_law_is_refused", "_law_great_right"] : List Str)
theorem run (w : World) : HandSHeadRun.RunEq RowR (PySem.W.view RowR.prog [33]) hk ob 40000 loose w := by
  intro os
  kernel_rfl
theorem facts {P : Program} {w : World} {K : PySem.W.Frag} {h : Heap} {mg : Str → Option Value} {f : Addr} (X : K.In h) (G : h.Ns mainGlobals mg) (hfa : mg ("law" : Str) = some (.ref f)) (c0 : (cs.all fun c => c K) = true) (c : He.SaysD fa fn K) :
    ∃ fd : FuncData, (∀ (s : Shared) (v : Value), BindsTo s fd ⟨[v], []⟩ [("_law_script", v)]) ∧ ∀ base : Heap, K.In base → base.Ns mainGlobals mg → GOk P w K mg base (L2.CX P w) 77 f fd ["_law_script"] (sp_law K) := by
  obtain ⟨fd_is_int, F_is_int⟩ := c.def_ 0 (d := d_is_int) rfl
  have b_is_int : Binds K fd_is_int ["value"] [] := F_is_int.bindsN fun _ _ _ _ _ _ us hl => match us, hl with | [_], _ => rfl
  obtain ⟨fd_is_whole, F_is_whole⟩ := c.def_ 1 (d := d_is_whole) rfl
  have b_is_whole : Binds K fd_is_whole ["value", "low", "high"] [] := F_is_whole.bindsN fun _ _ _ _ _ _ us hl => match us, hl with | [_, _, _], _ => rfl
  obtain ⟨fd_TooLarge___init__, F_TooLarge___init__⟩ := c.def_ 2 (d := d_TooLarge___init__) rfl
  have b_TooLarge___init__ : Binds K fd_TooLarge___init__ ["self", "limit"] [] := F_TooLarge___init__.bindsN fun _ _ _ _ _ _ us hl => match us, hl with | [_, _], _ => rfl
  obtain ⟨fd_require_length, F_require_length⟩ := c.def_ 3 (d := d_require_length) rfl
  have b_require_length : Binds K fd_require_length ["value"] [] := F_require_length.bindsN fun _ _ _ _ _ _ us hl => match us, hl with | [_], _ => rfl
  obtain ⟨fd_require_slots, F_require_slots⟩ := c.def_ 4 (d := d_require_slots) rfl
  have b_require_slots : Binds K fd_require_slots ["value"] [] := F_require_slots.bindsN fun _ _ _ _ _ _ us hl => match us, hl with | [_], _ => rfl
  obtain ⟨fd_require_task, F_require_task⟩ := c.def_ 5 (d := d_require_task) rfl
  have b_require_task : Binds K fd_require_task ["length", "slots"] [] := F_require_task.bindsN fun _ _ _ _ _ _ us hl => match us, hl with | [_, _], _ => rfl
  obtain ⟨fd_reach_of, F_reach_of⟩ := c.def_ 6 (d := d_reach_of) rfl
  have b_reach_of : Binds K fd_reach_of ["slots", "rounds"] [] := F_reach_of.bindsN fun _ _ _ _ _ _ us hl => match us, hl with | [_, _], _ => rfl
  obtain ⟨fd_rounds_of, F_rounds_of⟩ := c.def_ 7 (d := d_rounds_of) rfl
  have b_rounds_of : Binds K fd_rounds_of ["length", "slots"] [] := F_rounds_of.bindsN fun _ _ _ _ _ _ us hl => match us, hl with | [_, _], _ => rfl
  obtain ⟨fd_steps_with, F_steps_with⟩ := c.def_ 8 (d := d_steps_with) rfl
  have b_steps_with : Binds K fd_steps_with ["length", "slots", "rounds"] [] := F_steps_with.bindsN fun _ _ _ _ _ _ us hl => match us, hl with | [_, _, _], _ => rfl
  obtain ⟨fd_least_of, F_least_of⟩ := c.def_ 9 (d := d_least_of) rfl
  have b_least_of : Binds K fd_least_of ["length", "slots"] [] := F_least_of.bindsN fun _ _ _ _ _ _ us hl => match us, hl with | [_, _], _ => rfl
  obtain ⟨fd_least_steps, F_least_steps⟩ := c.def_ 10 (d := d_least_steps) rfl
  have b_least_steps : Binds K fd_least_steps ["length", "slots"] [] := F_least_steps.bindsN fun _ _ _ _ _ _ us hl => match us, hl with | [_, _], _ => rfl
  obtain ⟨fd_step_times, F_step_times⟩ := c.def_ 11 (d := d_step_times) rfl
  have b_step_times : Binds K fd_step_times ["length", "slots"] [] := F_step_times.bindsN fun _ _ _ _ _ _ us hl => match us, hl with | [_, _], _ => rfl
  obtain ⟨fd_L_wound, F_L_wound⟩ := c.def_ 12 (d := d_L_wound) rfl
  have b_L_wound : Binds K fd_L_wound ["_law_script", "_law_k"] [] := F_L_wound.bindsN fun _ _ _ _ _ _ us hl => match us, hl with | [_, _], _ => rfl
  obtain ⟨fd_L_spin, F_L_spin⟩ := c.def_ 13 (d := d_L_spin) rfl
  have b_L_spin : Binds K fd_L_spin ["_law_reel", "_law_many"] [] := F_L_spin.bindsN fun _ _ _ _ _ _ us hl => match us, hl with | [_, _], _ => rfl
  obtain ⟨fd_L_choose, F_L_choose⟩ := c.def_ 14 (d := d_L_choose) rfl
  have b_L_choose : Binds K fd_L_choose ["_law_slots", "_law_rounds_here"] [] := F_L_choose.bindsN fun _ _ _ _ _ _ us hl => match us, hl with | [_, _], _ => rfl
  obtain ⟨fd_L_rounds, F_L_rounds⟩ := c.def_ 15 (d := d_L_rounds) rfl
  have b_L_rounds : Binds K fd_L_rounds ["_law_length", "_law_slots"] [] := F_L_rounds.bindsN fun _ _ _ _ _ _ us hl => match us, hl with | [_, _], _ => rfl
  obtain ⟨fd_L_great, F_L_great⟩ := c.def_ 16 (d := d_L_great) rfl
  have b_L_great : Binds K fd_L_great ["_law_reel"] [] := F_L_great.bindsN fun _ _ _ _ _ _ us hl => match us, hl with | [_], _ => rfl
  obtain ⟨fd_L_table, F_L_table⟩ := c.def_ 17 (d := d_L_table) rfl
  have b_L_table : Binds K fd_L_table ["_law_most", "_law_slots"] [] := F_L_table.bindsN fun _ _ _ _ _ _ us hl => match us, hl with | [_, _], _ => rfl
  obtain ⟨fd_L_times, F_L_times⟩ := c.def_ 18 (d := d_L_times) rfl
  have b_L_times : Binds K fd_L_times ["_law_reel", "_law_table_here", "_law_n", "_law_s"] [] := F_L_times.bindsN fun _ _ _ _ _ _ us hl => match us, hl with | [_, _, _, _], _ => rfl
  obtain ⟨fd_L_small_right, F_L_small_right⟩ := c.def_ 19 (d := d_L_small_right) rfl
  have b_L_small_right : Binds K fd_L_small_right ["_law_reel", "_law_table_here"] [] := F_L_small_right.bindsN fun _ _ _ _ _ _ us hl => match us, hl with | [_, _], _ => rfl
  obtain ⟨fd_L_is_refused, F_L_is_refused⟩ := c.def_ 20 (d := d_L_is_refused) rfl
  have b_L_is_refused : Binds K fd_L_is_refused ["_law_n", "_law_s"] [] := F_L_is_refused.bindsN fun _ _ _ _ _ _ us hl => match us, hl with | [_, _], _ => rfl
  obtain ⟨fd_L_great_right, F_L_great_right⟩ := c.def_ 21 (d := d_L_great_right) rfl
  have b_L_great_right : Binds K fd_L_great_right ["_law_reel"] [] := F_L_great_right.bindsN fun _ _ _ _ _ _ us hl => match us, hl with | [_], _ => rfl
  obtain ⟨fd_law, F_law⟩ := c.def_ 22 (d := d_law) rfl
  have b_law : Binds K fd_law ["_law_script"] [] := F_law.bindsN fun _ _ _ _ _ _ us hl => match us, hl with | [_], _ => rfl
  have e := hfa.symm.trans (He.glo_ok X G (c.fact 21 (f := .glo "law") rfl))
  cases e
  obtain ⟨t_MOST_LENGTH, c_MOST_LENGTH⟩ := He.int_ok X G (c.fact 34 (f := .int "MOST_LENGTH" (1000000000000000000000000000000)) rfl)
  obtain ⟨t_MOST_SLOTS, c_MOST_SLOTS⟩ := He.int_ok X G (c.fact 35 (f := .int "MOST_SLOTS" (100)) rfl)
  obtain ⟨t_MOST_ROUNDS, c_MOST_ROUNDS⟩ := He.int_ok X G (c.fact 36 (f := .int "MOST_ROUNDS" (1000)) rfl)
  have b := FunD.bindsA (ps := ["_law_script"]) F_law fun _ _ _ _ _ _ us hl => match us, hl with | [_], _ => rfl
  exact ⟨fd_law, fun s v => b s [v] rfl, fun base _ _ => ok_law ⟨_,
    fd_is_int,
    F_is_int,
    b_is_int,
    He.glo_ok X G (c.fact 0 (f := .glo "is_int") rfl),
    _,
    fd_is_whole,
    F_is_whole,
    b_is_whole,
    He.glo_ok X G (c.fact 1 (f := .glo "is_whole") rfl),
    _,
    fd_TooLarge___init__,
    F_TooLarge___init__,
    b_TooLarge___init__,
    _,
    fd_require_length,
    F_require_length,
    b_require_length,
    He.glo_ok X G (c.fact 2 (f := .glo "require_length") rfl),
    _,
    fd_require_slots,
    F_require_slots,
    b_require_slots,
    He.glo_ok X G (c.fact 3 (f := .glo "require_slots") rfl),
    _,
    fd_require_task,
    F_require_task,
    b_require_task,
    He.glo_ok X G (c.fact 4 (f := .glo "require_task") rfl),
    _,
    fd_reach_of,
    F_reach_of,
    b_reach_of,
    He.glo_ok X G (c.fact 5 (f := .glo "reach_of") rfl),
    _,
    fd_rounds_of,
    F_rounds_of,
    b_rounds_of,
    He.glo_ok X G (c.fact 6 (f := .glo "rounds_of") rfl),
    _,
    fd_steps_with,
    F_steps_with,
    b_steps_with,
    He.glo_ok X G (c.fact 7 (f := .glo "steps_with") rfl),
    _,
    fd_least_of,
    F_least_of,
    b_least_of,
    He.glo_ok X G (c.fact 8 (f := .glo "least_of") rfl),
    _,
    fd_least_steps,
    F_least_steps,
    b_least_steps,
    He.glo_ok X G (c.fact 9 (f := .glo "least_steps") rfl),
    _,
    fd_step_times,
    F_step_times,
    b_step_times,
    He.glo_ok X G (c.fact 10 (f := .glo "step_times") rfl),
    _,
    fd_L_wound,
    F_L_wound,
    b_L_wound,
    He.glo_ok X G (c.fact 11 (f := .glo "_law_wound") rfl),
    _,
    fd_L_spin,
    F_L_spin,
    b_L_spin,
    He.glo_ok X G (c.fact 12 (f := .glo "_law_spin") rfl),
    _,
    fd_L_choose,
    F_L_choose,
    b_L_choose,
    He.glo_ok X G (c.fact 13 (f := .glo "_law_choose") rfl),
    _,
    fd_L_rounds,
    F_L_rounds,
    b_L_rounds,
    He.glo_ok X G (c.fact 14 (f := .glo "_law_rounds") rfl),
    _,
    fd_L_great,
    F_L_great,
    b_L_great,
    He.glo_ok X G (c.fact 15 (f := .glo "_law_great") rfl),
    _,
    fd_L_table,
    F_L_table,
    b_L_table,
    He.glo_ok X G (c.fact 16 (f := .glo "_law_table") rfl),
    _,
    fd_L_times,
    F_L_times,
    b_L_times,
    He.glo_ok X G (c.fact 17 (f := .glo "_law_times") rfl),
    _,
    fd_L_small_right,
    F_L_small_right,
    b_L_small_right,
    He.glo_ok X G (c.fact 18 (f := .glo "_law_small_right") rfl),
    _,
    fd_L_is_refused,
    F_L_is_refused,
    b_L_is_refused,
    He.glo_ok X G (c.fact 19 (f := .glo "_law_is_refused") rfl),
    _,
    fd_L_great_right,
    F_L_great_right,
    b_L_great_right,
    He.glo_ok X G (c.fact 20 (f := .glo "_law_great_right") rfl),
    _,
    fd_law,
    F_law,
    b_law,
    He.glo_ok X G (c.fact 21 (f := .glo "law") rfl),
    He.free_ok X G (c.fact 22 (f := .free "isinstance") rfl),
    He.free_ok X G (c.fact 23 (f := .free "int") rfl),
    He.free_ok X G (c.fact 24 (f := .free "bool") rfl),
    He.free_ok X G (c.fact 25 (f := .free "range") rfl),
    He.free_ok X G (c.fact 26 (f := .free "min") rfl),
    He.free_ok X G (c.fact 27 (f := .free "len") rfl),
    He.free_ok X G (c.fact 28 (f := .free "max") rfl),
    He.free_ok X G (c.fact 29 (f := .free "list") rfl),
    He.free_ok X G (c.fact 30 (f := .free "enumerate") rfl),
    He.free_ok X G (c.fact 31 (f := .free "repr") rfl),
    He.free_ok X G (c.fact 32 (f := .free "sorted") rfl),
    He.free_ok X G (c.fact 33 (f := .free "sum") rfl),
    t_MOST_LENGTH,
    c_MOST_LENGTH,
    t_MOST_SLOTS,
    c_MOST_SLOTS,
    t_MOST_ROUNDS,
    c_MOST_ROUNDS,
    errI_ok X G (List.all_eq_true.mp c0 _ (List.mem_of_getElem? (i := 0) rfl)),
    List.all_eq_true.mp c0 _ (List.mem_of_getElem? (i := 1) rfl),
    initB_ok (List.all_eq_true.mp c0 _ (List.mem_of_getElem? (i := 2) rfl))⟩⟩
end Bs
open PySem PySem.W PySem.Calls PyProof.Rows
theorem PySem.Challenge.cw_backslots_k06_times_of_steps_holds : PySem.Challenge.rw_backslots_k06_times_of_steps.Holds := by
  w_on; o_law
  refine HandSHeadRun.head_any (r := OpenLaw.row PySem.Challenge.rw_backslots_k06_times_of_steps) (q := view (OpenLaw.row PySem.Challenge.rw_backslots_k06_times_of_steps).prog [33]) (H := Bs.hk) (ob := Bs.ob) (M := 40000) (loose := Bs.loose) (d := HandSHeadRun.topDef (OpenLaw.row PySem.Challenge.rw_backslots_k06_times_of_steps).prog 33) (kwd := []) Bs.ob_eq
    (by kernel_rfl) (fun s => by kernel_rfl) Bs.run (by kernel_rfl) (by kernel_rfl) (by kernel_rfl) (by rfl) (by first | assumption | decide +kernel) (by decide +kernel) ⟨rfl, rfl, rfl, rfl, rfl, by decide +kernel⟩ ?hw ?hc
  case hw => w_witness2
  case hc =>
    refine Bs.walk_g (l := PySem.Challenge.rw_backslots_k06_times_of_steps) (n := 63) (k := 77) (x := "_law_script") rfl (by decide) (by kernel_rfl) ⟨rfl, by decide, by decide⟩ ?F
    intro w mg fa h Y G hmg0
    obtain ⟨K, KX, c0, c⟩ := Y
    have hmg : mg ("law" : PySem.Str) = some (.ref fa) := by
      have e : (HandSHeadRun.topDef (OpenLaw.row PySem.Challenge.rw_backslots_k06_times_of_steps).prog 33).name = ("law" : PySem.Str) := by kernel_rfl
      rw [← e]
      exact hmg0
    obtain ⟨fd, hb, hF⟩ := Bs.facts (P := (PySem.Challenge.rw_backslots_k06_times_of_steps).prog) (w := w) KX G hmg c0 c
    exact ⟨K, fd, Bs.sp_law K, KX, hb, fun H a ns hl hO hS => Bs.law_in hl hS fun _ => rfl, hF⟩
