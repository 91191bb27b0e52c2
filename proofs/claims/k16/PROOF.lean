import PyProof.Rows.All
import Wide.All
import OpenK.AllK
import Wide.FinOn
import HandS.ForMost
import HandS.Exc
import PyProof.ReprRoads
import KE.KEqNest
import HandS.More
import HandS.MakeKw
import HandS.TupAny
import HandS.Codes
import HandS.FStr
import HandS.RaiseMore
import HandS.Zip
import HandS.Style
import HandS.Walk
import HandS.IsInst
import KE.KCallOwn
import PySem.Challenge.RW_keptphrases_k16_pulls_compared
set_option Elab.async false
set_option linter.all false
set_option maxRecDepth 100000
set_option maxHeartbeats 4000000
namespace Kq
open PySem PySem.Spec PyProof.Rows L2

/-! a def whose promise is asked for only where no guarded built-in is running -/
structure FnG (P : Program) (w : World) (K : PySem.W.Frag) (mg : Str → Option Value) (base : Heap) (CX : CXT) (k : Nat) (f : Addr) (fd : FuncData) (ps : List Str) (sp : Sp) : Prop where
  len : ∀ vs H Q E, sp vs H Q E → vs.length = ps.length
  run : ∀ (A : Around) (outer : List Env) (s : Shared) (H : Hp) (args : Args) (us : List Value) (vs : List V) (Q : VK) (E : XK),
    A.guards = some [] → Room k A → Env0 P w K mg base A outer s H → BindsTo s fd args (ps.zip us) → Vals vs us → sp vs H Q E →
      codeAny (model P w) A (.call (.ref f) args) (CR CX outer P w H s Q E) s

section
variable {P : Program} {w : World} {K : PySem.W.Frag} {mg : Str → Option Value} {base : Heap} {CX : CXT} {k : Nat} {f : Addr} {fd : FuncData} {N ps : List Str} {sp : Sp}
theorem FnG.ofOk (F : FnOk P w K mg base CX k f fd ps sp) : FnG P w K mg base CX k f fd ps sp :=
  ⟨F.len, fun A outer s H args us vs Q E _ => F.run A outer s H args us vs Q E⟩

/-- the body's rule, with the knowledge about guards -/
theorem Fun.okG {x qual : Str} {st : Stmt} (F : Fun K x qual st f fd) (S : FnScope N ps (defScope st)) (len : ∀ vs H Q E, sp vs H Q E → vs.length = ps.length)
    (hbody : ∀ (cdv : Value) (A : Around) (outer : List Env) (s : Shared) (H : Hp) (vs : List V) (Q : VK) (E : XK),
      (A.deeper (envOfC qual (defScope st) s.heap.objs.size f cdv)).guards = some [] →
      Room k (A.deeper (envOfC qual (defScope st) s.heap.objs.size f cdv)) → sp vs H Q E →
      ∃ t, PSs (cxOf CX P w K mg base N qual (defScope st) f cdv A outer s H E) (defBody st) t ∧ t { nx := fun _ H' => Q .non H', rt := Q } (start N vs) H) :
    FnG P w K mg base CX (k + 1) f fd ps sp := by
  obtain ⟨oc, od, kV, doc, pm, an, cdv, ct, osl, rfl, lk, hcd⟩ := F.ex
  constructor
  · exact len
  · intro A outer s H args us vs Q E hgd hr e0 hb r hsp
    -- the promise narrowed to this very call
    let sp1 : Sp := fun vs' H' Q' E' => vs' = vs ∧ H' = H ∧ Q' = Q ∧ E' = E
    have hl := len _ _ _ _ hsp
    have KX : K.In s.heap := e0.mod.kin.keeps fun b o e => (e0.bs b o e).1
    have lim : s.heap.NoLimit := e0.mod.nolimit.keeps fun b o e => (e0.bs b o e).1
    refine codeAny_call_function hr.depth (KX _ _ lk) rfl S.co S.gen rfl (PySem.W.codeRec_of KX hcd) (hb _ _ _ _ ?_)
    refine wpAny_newFunctionEnv_cells S.kind ?_ fun env he s1 x => ?_
    · rintro ⟨n, v⟩ hy
      rcases S.par n (List.of_mem_zip hy).1 with q | q
      · exact Or.inl q
      · exact Or.inr ⟨q, PySem.W.cellsFrom_some _ _ _ (.inl q)⟩
    subst he
    refine ⟨lim.keeps x.toInCall.keep, codeAny_func ?_⟩
    obtain ⟨t, ht, hq⟩ := hbody cdv A outer s H vs Q E hgd (hr.deeper _) hsp
    have I := inv_start (CX := CX) (E := E) S hr.hd e0 hl r x
    refine wpAny_mono (ht.run [] s1 (start N vs) H _ I hq) ?_ (fun e s' hs => hs)
    intro fl s' hs
    cases fl with
    | ret u =>
      obtain ⟨v, σ', H', J, rv, q⟩ := hs
      exact ⟨v, H', J.os, J.bare, J.base, J.hok, rv, q⟩
    | next =>
      obtain ⟨σ', H', J, q⟩ := hs
      exact ⟨V.non, H', J.os, J.bare, J.base, J.hok, rfl, q⟩
    | brk => obtain ⟨_, _, _, q⟩ := hs; exact q.elim
    | cont => obtain ⟨_, _, _, q⟩ := hs; exact q.elim
end

section
variable {X : Cx} {CX : CXT} {k : Nat} {f C : Addr} {fd : FuncData} {ps : List Str} {sp : Sp} {E : XK} {x m : Str} {p pos apos : Pos} {e o : Expr} {es : List Expr} {ta : TE} {t : TA}
/-- a call as an operation on values -/
theorem callG (F : FnG X.prog X.w X.K X.mg X.base CX k f fd ps sp) (hgd : X.A.guards = some []) (hr : Room k X.A) (hb : Binds X.K fd ps []) (hx : Passes CX X E) :
    CallR X (.ref f) (fun vs H Q => sp vs H Q E) := by
  intro pins s σ H vs us Q I r h
  have hl : us.length = ps.length := by rw [← r.length]; exact F.len _ _ _ _ h
  have hb1 := hb s us I.kIn (by simpa using hl)
  rw [List.append_nil] at hb1
  refine wpAny_call (codeAny_mono (F.run X.A X.stack s H ⟨us, []⟩ us vs Q E hgd hr I.env0 hb1 r h) ?_)
  intro r s' hq
  match r, hq with
  | .error e, hq => exact hx pins σ H s e s' I hq
  | .ok (.ret u), hq => exact I.after hq
theorem callO (F : FnOk X.prog X.w X.K X.mg X.base CX k f fd ps sp) (hr : Room k X.A) (hb : Binds X.K fd ps []) (hx : Passes CX X E) :
    CallR X (.ref f) (fun vs H Q => sp vs H Q E) := by
  intro pins s σ H vs us Q I r h
  exact run_fn F hr hb .nil hx I r (by rw [List.append_nil]; exact h)
/-- a global function called with positional arguments -/
theorem pe_callV {r : List V → Hp → VK → Prop} (hc : CallR X (.ref f) r) (hg : Gl X x) (hm : X.mg x = some (.ref f)) (hk : PySem.W.keepIn X.K (.ref f) = true)
    (ha : PA X (e :: es) t) (hdb : (x == ("__debug__" : Str)) = false := by decide) (he : starEach (e :: es) X.env = (false, eval e X.env) :: starEach es X.env := by rfl)
    (hpl : (backTo pos (starEach es X.env)).any (·.1) = false := by rfl) :
    PE X (.Call (.Name x p) (e :: es) [] pos) (tCB r t) := by
  constructor
  intro pins s σ H Q I h
  refine wpAny_Call_Name_kw (ld_glob I hg hm ?_ hdb)
  refine PySem.W.callWith_K (h₀ := X.base) I.ok.mod.kin hk (thn (ha.run pos pins s σ H _ I h) ?_) he hpl
  rintro us s1 ⟨vs, H1, I1, r1, q⟩
  exact ⟨I1.kIn, hc pins s1 σ H1 vs us Q I1 r1 q⟩
theorem pe_callV0 {r : List V → Hp → VK → Prop} (hc : CallR X (.ref f) r) (hg : Gl X x) (hm : X.mg x = some (.ref f)) (hk : PySem.W.keepIn X.K (.ref f) = true)
    (hdb : (x == ("__debug__" : Str)) = false := by decide) : PE X (.Call (.Name x p) [] [] pos) (tCB r tNil) := by
  constructor
  intro pins s σ H Q I h
  exact wpAny_Call_Name_kw (ld_glob I hg hm (PySem.W.callWith_K0 I.kIn hk (hc pins s σ H [] [] Q I .nil h)) hdb)
end

/-! what a global name promises -/
structure Prom (P : Program) (w : World) (K : PySem.W.Frag) (mg : Str → Option Value) (base : Heap) (k : Nat) (x : Str) (ps : List Str) (sp : Sp) : Prop where
  ex : ∃ f fd, mg x = some (.ref f) ∧ PySem.W.keepIn K (.ref f) = true ∧ Binds K fd ps [] ∧ FnOk P w K mg base CX0 k f fd ps sp
structure PromG (P : Program) (w : World) (K : PySem.W.Frag) (mg : Str → Option Value) (base : Heap) (k : Nat) (x : Str) (ps : List Str) (sp : Sp) : Prop where
  ex : ∃ f fd, mg x = some (.ref f) ∧ PySem.W.keepIn K (.ref f) = true ∧ Binds K fd ps [] ∧ FnG P w K mg base CX0 k f fd ps sp
def spC (sp : Sp) : List V → Hp → VK → Prop := fun vs H Q => sp vs H Q E0
section
variable {X : Cx} {k j : Nat} {ps : List Str} {sp : Sp} {x : Str} {p pos : Pos} {e : Expr} {es : List Expr} {t : TA}
theorem pe_p (F : Prom X.prog X.w X.K X.mg X.base k x ps sp) (hr : Room j X.A) (hj : k ≤ j) (ha : PA X (e :: es) t) (hg : Gl X x := by rfl)
    (hdb : (x == ("__debug__" : Str)) = false := by decide) (he : starEach (e :: es) X.env = (false, eval e X.env) :: starEach es X.env := by rfl)
    (hpl : (backTo pos (starEach es X.env)).any (·.1) = false := by rfl) : PE X (.Call (.Name x p) (e :: es) [] pos) (tCB (spC sp) t) := by
  obtain ⟨f, fd, hm, hk, hb, G⟩ := F.ex
  exact pe_callV (callO G (hr.mono hj) hb pass0) hg hm hk ha hdb he hpl
theorem pe_p0 (F : Prom X.prog X.w X.K X.mg X.base k x ps sp) (hr : Room j X.A) (hj : k ≤ j) (hg : Gl X x := by rfl)
    (hdb : (x == ("__debug__" : Str)) = false := by decide) : PE X (.Call (.Name x p) [] [] pos) (tCB (spC sp) tNil) := by
  obtain ⟨f, fd, hm, hk, hb, G⟩ := F.ex
  exact pe_callV0 (callO G (hr.mono hj) hb pass0) hg hm hk hdb
theorem pe_g (F : PromG X.prog X.w X.K X.mg X.base k x ps sp) (hgd : X.A.guards = some []) (hr : Room j X.A) (hj : k ≤ j) (ha : PA X (e :: es) t) (hg : Gl X x := by rfl)
    (hdb : (x == ("__debug__" : Str)) = false := by decide) (he : starEach (e :: es) X.env = (false, eval e X.env) :: starEach es X.env := by rfl)
    (hpl : (backTo pos (starEach es X.env)).any (·.1) = false := by rfl) : PE X (.Call (.Name x p) (e :: es) [] pos) (tCB (spC sp) t) := by
  obtain ⟨f, fd, hm, hk, hb, G⟩ := F.ex
  exact pe_callV (callG G hgd (hr.mono hj) hb pass0) hg hm hk ha hdb he hpl
end
end Kq

namespace Kq
open PySem PySem.Spec PyProof.Rows L2

/-! ## plain data in the abstract heap. T: the only dict that may stand in it -/
abbrev Tb := List (Key × V)
def kD : Key → PyData
  | .inl i => .int i
  | .inr x => .str x
def vD : V → PyData
  | .bl b => .bool b
  | .int i => .int i
  | .str x => .str x
  | _ => .none
def tD (T : Tb) : PyData := .dict (T.map fun q => (kD q.1, vD q.2))
mutual
inductive Dq (T : Tb) (H : Hp) : V → PyData → Prop
  | non : Dq T H .non .none
  | bl (b : Bool) : Dq T H (.bl b) (.bool b)
  | int (i : Int) : Dq T H (.int i) (.int i)
  | str (x : Str) : Dq T H (.str x) (.str x)
  | lst {a : Addr} {xs : List V} {ds : List PyData} : H a = some (.lst xs) → Dqs T H xs ds → Dq T H (.ref a) (.list ds)
  | tup {a : Addr} {xs : List V} {ds : List PyData} : H a = some (.tup xs) → Dqs T H xs ds → Dq T H (.ref a) (.tuple ds)
  | dct {a : Addr} : H a = some (.dK T) → Dq T H (.ref a) (tD T)
inductive Dqs (T : Tb) (H : Hp) : List V → List PyData → Prop
  | nil : Dqs T H [] []
  | cons {v : V} {vs : List V} {d : PyData} {ds : List PyData} : Dq T H v d → Dqs T H vs ds → Dqs T H (v :: vs) (d :: ds)
end
mutual
theorem Dq.mono {T : Tb} {H H' : Hp} (h : Same H H') : ∀ {v : V} {d : PyData}, Dq T H v d → Dq T H' v d
  | _, _, .non => .non
  | _, _, .bl b => .bl b
  | _, _, .int i => .int i
  | _, _, .str x => .str x
  | _, _, .lst e q => .lst (h _ _ e) (Dqs.mono h q)
  | _, _, .tup e q => .tup (h _ _ e) (Dqs.mono h q)
  | _, _, .dct e => .dct (h _ _ e)
theorem Dqs.mono {T : Tb} {H H' : Hp} (h : Same H H') : ∀ {v : List V} {d : List PyData}, Dqs T H v d → Dqs T H' v d
  | _, _, .nil => .nil
  | _, _, .cons a b => .cons (Dq.mono h a) (Dqs.mono h b)
end
theorem Dqs.length {T : Tb} {H : Hp} : ∀ {vs : List V} {ds : List PyData}, Dqs T H vs ds → vs.length = ds.length
  | _, _, .nil => rfl
  | _, _, .cons _ b => congrArg Nat.succ (Dqs.length b)
theorem Dqs.get {T : Tb} {H : Hp} : ∀ {vs : List V} {ds : List PyData} {i : Nat} {v : V}, Dqs T H vs ds → vs[i]? = some v → ∃ d, ds[i]? = some d ∧ Dq T H v d
  | _, _, _, _, .nil, e => by simp at e
  | _, _, 0, _, .cons a _, e => by simp at e; subst e; exact ⟨_, rfl, a⟩
  | _, _, i + 1, v, .cons _ b, e => by
    obtain ⟨d, h1, h2⟩ := Dqs.get (i := i) b (by simpa using e)
    exact ⟨d, by simpa using h1, h2⟩
theorem Dqs.app {T : Tb} {H : Hp} : ∀ {vs ws : List V} {ds es : List PyData}, Dqs T H vs ds → Dqs T H ws es → Dqs T H (vs ++ ws) (ds ++ es)
  | _, _, _, _, .nil, h => h
  | _, _, _, _, .cons a b, h => .cons a (Dqs.app b h)
theorem Dqs.take {T : Tb} {H : Hp} : ∀ {vs : List V} {ds : List PyData} (n : Nat), Dqs T H vs ds → Dqs T H (vs.take n) (ds.take n)
  | _, _, 0, _ => .nil
  | _, _, _ + 1, .nil => .nil
  | _, _, n + 1, .cons a b => .cons a (Dqs.take n b)
theorem Dqs.drop {T : Tb} {H : Hp} : ∀ {vs : List V} {ds : List PyData} (n : Nat), Dqs T H vs ds → Dqs T H (vs.drop n) (ds.drop n)
  | _, _, 0, h => h
  | _, _, _ + 1, .nil => .nil
  | _, _, n + 1, .cons _ b => Dqs.drop n b
theorem Dqs.rev {T : Tb} {H : Hp} : ∀ {vs : List V} {ds : List PyData}, Dqs T H vs ds → Dqs T H vs.reverse ds.reverse
  | _, _, .nil => .nil
  | _, _, .cons a b => by
    rw [List.reverse_cons, List.reverse_cons]
    exact Dqs.app (Dqs.rev b) (.cons a .nil)
theorem Dqs.strs {T : Tb} {H : Hp} : ∀ (xs : List Str), Dqs T H (xs.map V.str) (xs.map PyData.str)
  | [] => .nil
  | x :: xs => .cons (.str x) (Dqs.strs xs)
theorem Dqs.ints {T : Tb} {H : Hp} : ∀ (xs : List Int), Dqs T H (xs.map V.int) (xs.map PyData.int)
  | [] => .nil
  | x :: xs => .cons (.int x) (Dqs.ints xs)
theorem Dqs.rep {T : Tb} {H : Hp} {v : V} {d : PyData} (h : Dq T H v d) : ∀ n, Dqs T H (List.replicate n v) (List.replicate n d)
  | 0 => .nil
  | n + 1 => .cons h (Dqs.rep h n)
/-- the dicts of a table are flat -/
def flat1 : V → Bool
  | .byt _ => false
  | .flt _ => false
  | .ref _ => false
  | .ty _ => false
  | _ => true
def flatT (T : Tb) : Bool := T.all fun q => flat1 q.2

/-! ### it is read -/
section
variable {T : Tb} {X : Cx} {pins : List (Addr × Obj)} {σ : L2.St} {H : Hp} {s : Shared}
/-- no dict of the model's own is tracked -/
def NoSys (X : Cx) : Prop := ∃ o, X.base.get? sysModules = some o
theorem NoSys.ne (h1 : NoSys X) (I : Inv X pins σ H s) {a : Addr} {o : HO} (e : H a = some o) : a ≠ sysModules := by
  rintro rfl
  obtain ⟨ob, ho⟩ := h1
  have := (I.bs _ _ ho).2
  rw [e] at this
  cases this
theorem keys_read {P : Program} {w : World} {h : Heap} : ∀ {es : List DictEntry} {kvs : List (Key × Value)}, Pairs (mixKind P w) es kvs → ReadsAll h (es.map (·.key)) (kvs.map fun q => kD q.1) []
  | _, _, .nil => .nil
  | _, _, .cons (kv := (k, v)) a _ r => by
    have q := keys_read (h := h) r
    rcases keyIs_shape a with ⟨i, t, e1, e2⟩ | ⟨x, t, e1, e2⟩
    · have e1' : k = .inl i := e1
      subst e1'
      simp only [List.map_cons, e2]
      exact ReadsAll.cons (as := []) (Reads.int i t) q
    · have e1' : k = .inr x := e1
      subst e1'
      simp only [List.map_cons, e2]
      exact ReadsAll.cons (as := []) (Reads.str x t) q
theorem vals_read {P : Program} {w : World} {h : Heap} : ∀ {es : List DictEntry} {kvs : List (Key × Value)} {T : Tb}, Pairs (mixKind P w) es kvs → KV T kvs → flatT T = true → ReadsAll h (es.map (·.val)) (T.map fun q => vD q.2) []
  | _, _, _, .nil, r, _ => by cases r; exact .nil
  | _, _, _, .cons (kv := (k, v)) _ e r, rk, ft => by
    cases rk with
    | cons h1 h2 =>
      rename_i p T'
      obtain ⟨k', x⟩ := p
      have ft' : flat1 x = true ∧ flatT T' = true := by
        unfold flatT at ft
        rw [List.all_cons, Bool.and_eq_true] at ft
        exact ft
      have q := vals_read (h := h) r h2 ft'.2
      have e' : (_ : DictEntry).val = v := e
      have rv : RelV x v := h1.2
      simp only [List.map_cons, e']
      cases x with
      | non => cases rv; exact ReadsAll.cons (as := []) Reads.none q
      | bl b => cases rv; exact ReadsAll.cons (as := []) (Reads.bool b) q
      | int i => obtain ⟨t, rfl⟩ := rv; exact ReadsAll.cons (as := []) (Reads.int i t) q
      | str y => obtain ⟨t, rfl⟩ := rv; exact ReadsAll.cons (as := []) (Reads.str y t) q
      | byt b => exact absurd (show false = true from ft'.1) Bool.false_ne_true
      | flt b => exact absurd (show false = true from ft'.1) Bool.false_ne_true
      | ref b => exact absurd (show false = true from ft'.1) Bool.false_ne_true
      | ty b => exact absurd (show false = true from ft'.1) Bool.false_ne_true
theorem keys_same {T : Tb} {vs : List (Key × Value)} (r : KV T vs) : T.map (·.1) = vs.map (·.1) := by
  induction r with
  | nil => rfl
  | cons h _ ih => rw [List.map_cons, List.map_cons, ih, h.1]
mutual
theorem Dq.reads (h1 : NoSys X) (I : Inv X pins σ H s) (hT : flatT T = true) : ∀ {v : V} {d : PyData} (u : Value), Dq T H v d → RelV v u → ∃ as, Reads s.heap u d as ∧ sysModules ∉ as
  | _, _, _, .non, r => by cases r; exact ⟨_, Reads.none, by simp⟩
  | _, _, _, .bl b, r => by cases r; exact ⟨_, Reads.bool b, by simp⟩
  | _, _, _, .int i, r => by obtain ⟨t, rfl⟩ := r; exact ⟨_, Reads.int i t, by simp⟩
  | _, _, _, .str x, r => by obtain ⟨t, rfl⟩ := r; exact ⟨_, Reads.str x t, by simp⟩
  | _, _, _, .lst (a := a) (xs := xs) e q, r => by
    cases r
    obtain ⟨z, its, n, rv, hget⟩ : ObjOk X.prog X.w H s.heap a (.lst xs) := I.hok _ _ e
    obtain ⟨as, hr, hn⟩ := Dqs.reads h1 I hT its q rv
    exact ⟨a :: as, Reads.list hget rfl rfl hr, by
      intro hm
      rcases List.mem_cons.mp hm with z | z
      · exact h1.ne I e z.symm
      · exact hn z⟩
  | _, _, _, .tup (a := a) (xs := xs) e q, r => by
    cases r
    obtain ⟨z, its, rv, o, ho, hc, n, hd⟩ : ObjOk X.prog X.w H s.heap a (.tup xs) := I.hok _ _ e
    obtain ⟨as, hr, hn⟩ := Dqs.reads h1 I hT its q rv
    exact ⟨as, Reads.tuple ho hc hd hr, hn⟩
  | _, _, _, .dct (a := a) e, r => by
    cases r
    obtain ⟨z, hy, vs, rv, o, es, ep, ho, hx, hd, hk, hp, nd⟩ : ObjOk X.prog X.w H s.heap a (.dK T) := I.hok _ _ e
    have k1 := keys_read (h := s.heap) hp
    have k2 := vals_read (h := s.heap) hp rv hT
    have e1 : (vs.map fun q => kD q.1) = T.map fun q => kD q.1 := by
      have := congrArg (List.map kD) (keys_same rv)
      rw [List.map_map, List.map_map] at this
      exact this.symm
    rw [e1] at k1
    have k1' : ReadsAll s.heap (es.toList.map (·.key)) ((T.map fun q => (kD q.1, vD q.2)).map (·.1)) [] := by rw [List.map_map]; exact k1
    have k2' : ReadsAll s.heap (es.toList.map (·.val)) ((T.map fun q => (kD q.1, vD q.2)).map (·.2)) [] := by rw [List.map_map]; exact k2
    refine ⟨a :: ([] ++ []), Reads.dict ho hx.1 hd k1' k2', ?_⟩
    · intro hm
      rcases List.mem_cons.mp hm with z | z
      · exact h1.ne I e z.symm
      · simp at z
theorem Dqs.reads (h1 : NoSys X) (I : Inv X pins σ H s) (hT : flatT T = true) : ∀ {vs : List V} {ds : List PyData} (us : List Value), Dqs T H vs ds → Vals vs us → ∃ as, ReadsAll s.heap us ds as ∧ sysModules ∉ as
  | _, _, _, .nil, r => by cases r; exact ⟨_, ReadsAll.nil, by simp⟩
  | _, _, _, .cons a b, r => by
    cases r with
    | cons r1 r2 =>
      obtain ⟨as, q1, n1⟩ := Dq.reads h1 I hT _ a r1
      obtain ⟨bs, q2, n2⟩ := Dqs.reads h1 I hT _ b r2
      exact ⟨as ++ bs, ReadsAll.cons q1 q2, fun hm => (List.mem_append.mp hm).elim n1 n2⟩
end
end

/-! ### repr -/
def rRepr (T : Tb) : List V → Hp → VK → Prop := fun xs H Q => ∃ x a d, xs = [x] ∧ x = .ref a ∧ Dq T H x d ∧ d.showable = true ∧ d.depth ≤ 30 ∧ d.shown.length ≤ sizeLine ∧ Q (.str d.shown) H
theorem call_repr {T : Tb} {X : Cx} (h1 : NoSys X) (hT : flatT T = true) (hgd : X.A.guards = some []) (hu : X.A.units + 64 < cLine) : CallR X (.builtin "repr") (rRepr T) := by
  intro pins s σ H xs us Q I r h
  obtain ⟨x, a, d, rfl, rfl, hd, hs, hp, hz, q⟩ := h
  cases r with
  | cons rx rr =>
    cases rr
    cases rx
    obtain ⟨as, hr, hn⟩ := Dq.reads h1 I hT _ hd rfl
    refine repr_of_reads' hr hs (fun _ => hn) hgd (by omega) (fun _ _ e => e) (fun h' u tk hk => ?_) hz
    exact ⟨.str d.shown, H, I.kept hk, ⟨u, rfl⟩, q⟩
end Kq

namespace Kq
open PySem PySem.Spec PyProof.Rows L2
open PySem.SeqAt PySem.MeetsSeq
open PySem.AutoSeq1 (wpAny_loadPart')

/-! ## == of plain data -/
abbrev dictO (es : Array DictEntry) (ep : Nat) : Obj := { cls := .type "dict", dict := none, data := .dict es ep, slots := #[] }
theorem exact_eq {o : Obj} {es : Array DictEntry} {ep : Nat} (h : o.ExactDict) (hd : o.data = .dict es ep) : o = dictO es ep := by
  obtain ⟨c, d, dt, sl⟩ := o
  obtain ⟨h1, h2, h3⟩ := h
  simp only at h1 h2 h3 hd
  subst h1 h2 h3 hd
  rfl
theorem int_declines_dict (b : Int) (u : Tok) (l : Addr) (es : Array DictEntry) (ep : Nat) :
    Meets (Builtin.«int.__eq__» ⟨[.int b u, .ref l], []⟩) (fun _ R s => s.heap.get? l = some (dictO es ep) ∧ R (.ok (.ret .notImplemented)) s) :=
  .of_wp fun prog w A R s h => by
    obtain ⟨hp, g, d, tk, os⟩ := s; obtain ⟨hl, h⟩ := h
    unfold dictO at hl
    wp_walk using wpAny_loadPart' hl, wpAny_load hl
    exact ⟨_, rfl, h⟩
theorem bool_declines_dict (b : Bool) (l : Addr) (es : Array DictEntry) (ep : Nat) :
    Meets (Builtin.«int.__eq__» ⟨[.bool b, .ref l], []⟩) (fun _ R s => s.heap.get? l = some (dictO es ep) ∧ R (.ok (.ret .notImplemented)) s) :=
  .of_wp fun prog w A R s h => by
    obtain ⟨hp, g, d, tk, os⟩ := s; obtain ⟨hl, h⟩ := h
    unfold dictO at hl
    wp_walk using wpAny_loadPart' hl, wpAny_load hl
    exact ⟨_, rfl, h⟩
theorem str_declines_dict (b : Str) (u : Tok) (l : Addr) (es : Array DictEntry) (ep : Nat) :
    Meets (Builtin.«str.__eq__» ⟨[.str b u, .ref l], []⟩) (fun _ R s => s.heap.get? l = some (dictO es ep) ∧ R (.ok (.ret .notImplemented)) s) :=
  .of_wp fun prog w A R s h => by
    obtain ⟨hp, g, d, tk, os⟩ := s; obtain ⟨hl, h⟩ := h
    unfold dictO at hl
    wp_walk using wpAny_loadPart' hl, wpAny_load hl
    exact ⟨_, rfl, h⟩
theorem list_declines_dict (l b : Addr) (items : Array Value) (n : Nat) (dd : Option Addr) (sl : Array (Option Value)) (es : Array DictEntry) (ep : Nat) :
    Meets (Builtin.«list.__eq__» ⟨[.ref l, .ref b], []⟩) (fun _ R s => s.heap.get? l = some { cls := .type "list", dict := dd, data := .seq items n, slots := sl } ∧ s.heap.get? b = some (dictO es ep) ∧ R (.ok (.ret .notImplemented)) s) :=
  .of_wp fun prog w A R s h => by
    obtain ⟨hp, g, d, tk, os⟩ := s; obtain ⟨hl, hb, h⟩ := h
    unfold dictO at hb
    have f1 := F.sub_dict_list
    wp_walk using wpAny_loadPart' hl, wpAny_loadPart' hb
    exact ⟨_, rfl, h⟩
theorem tuple_declines_dict (l b : Addr) (items : Array Value) (n : Nat) (dd : Option Addr) (sl : Array (Option Value)) (es : Array DictEntry) (ep : Nat) :
    Meets (Builtin.«tuple.__eq__» ⟨[.ref l, .ref b], []⟩) (fun _ R s => s.heap.get? l = some { cls := .type "tuple", dict := dd, data := .seq items n, slots := sl } ∧ s.heap.get? b = some (dictO es ep) ∧ R (.ok (.ret .notImplemented)) s) :=
  .of_wp fun prog w A R s h => by
    obtain ⟨hp, g, d, tk, os⟩ := s; obtain ⟨hl, hb, h⟩ := h
    unfold dictO at hb
    have f1 := F.sub_dict_tuple
    wp_walk using wpAny_loadPart' hl, wpAny_loadPart' hb
    exact ⟨_, rfl, h⟩
section
variable {prog : Program} {w : World} {A : Around} {E : Value → Shared → Prop} {s : Shared} {Q : Value → Shared → Prop} {a l : Addr} {es : Array DictEntry} {ep : Nat}
theorem dict_declines {x : Value} {Ty : String} (ha : s.heap.get? a = some (dictO es ep)) (hx : s.TypeIs x Ty) (hsub : isSubtype (.type Ty) (.type "dict") = pure false) (h : Q .notImplemented s) :
    wpAny (model prog w) A (call (.builtin "dict.__eq__") [.ref a, x]) Q E s := by
  have ht : s.TypeIs (.ref a) "dict" := ⟨_, ha, rfl⟩
  refine wpAny_call_entry PySem.F.slot_dict_eq ht PySem.F.entry_dict_eq ?_ (PySem.F.args_dict_eq_2 _ _)
  show wpAny _ _ (Builtin.Dict.dictSlotArgs "__eq__" ⟨[.ref a, x], []⟩ >>= _) _ _ s
  refine wpAny_bind ?_
  unfold Builtin.Dict.dictSlotArgs
  refine wpAny_bind (wpAny_notOrdered_dict ht ?_)
  show wpAny _ _ (pure (Value.ref a, x)) _ _ s
  refine wpAny_pure ?_
  refine wpAny_bind (wpAny_isInstance (T := Ty) hx hsub ?_)
  simp only [Bool.not_false, if_true]
  exact wpAny_bind (wpAny_rule (wpAny_pure ⟨_, rfl, h⟩))
theorem rc_dict_none (ha : s.heap.get? a = some (dictO es ep)) (hu : A.units < cLine) (h : Q (.bool false) s) : wpAny (model prog w) A (richCompare .Eq (.ref a) .none) Q E s :=
  rc_eq_decline_or (k := false) ⟨_, ha, rfl⟩ rfl (by decide) F.sub_NoneType_dict F.slot_dict_eq F.slot_NoneType_eq_refl
    (fun _ hq => dict_declines ha rfl F.sub_NoneType_dict hq)
    (fun _ hq => call_gives F.slot_NoneType_eq_refl rfl F.entry_NoneType_eq (F.args_NoneType_eq_2 _ _) (NoneType___eq___none_ref_0 a) hq)
    (fun _ hq => wpAny_of_eq (rfl : isSame (.ref a) .none = pure false) hq) (.inr hu) h
theorem rc_none_dict (ha : s.heap.get? a = some (dictO es ep)) (hu : A.units < cLine) (h : Q (.bool false) s) : wpAny (model prog w) A (richCompare .Eq .none (.ref a)) Q E s :=
  rc_eq_decline_or (k := false) rfl ⟨_, ha, rfl⟩ (by decide) F.sub_dict_NoneType F.slot_NoneType_eq F.slot_dict_eq
    (fun _ hq => call_gives F.slot_NoneType_eq rfl F.entry_NoneType_eq (F.args_NoneType_eq_2 _ _) (NoneType___eq___none_ref_0 a) hq)
    (fun _ hq => dict_declines ha rfl F.sub_NoneType_dict hq)
    (fun _ hq => wpAny_of_eq (rfl : isSame .none (.ref a) = pure false) hq) (.inr hu) h
theorem rc_dict_bool (b : Bool) (ha : s.heap.get? a = some (dictO es ep)) (hu : A.units < cLine) (h : Q (.bool false) s) : wpAny (model prog w) A (richCompare .Eq (.ref a) (.bool b)) Q E s :=
  rc_eq_decline_or (k := false) ⟨_, ha, rfl⟩ rfl (by decide) F.sub_bool_dict F.slot_dict_eq F.slot_bool_eq_refl
    (fun _ hq => dict_declines ha rfl F.sub_bool_dict hq)
    (fun _ hq => call_meets F.slot_bool_eq_refl rfl F.entry_int_eq (F.args_int_eq_2 _ _) (bool_declines_dict b a es ep) ⟨ha, hq⟩)
    (fun _ hq => wpAny_of_eq (rfl : isSame (.ref a) (.bool b) = pure false) hq) (.inr hu) h
theorem rc_bool_dict (b : Bool) (ha : s.heap.get? a = some (dictO es ep)) (hu : A.units < cLine) (h : Q (.bool false) s) : wpAny (model prog w) A (richCompare .Eq (.bool b) (.ref a)) Q E s :=
  rc_eq_decline_or (k := false) rfl ⟨_, ha, rfl⟩ (by decide) F.sub_dict_bool F.slot_bool_eq F.slot_dict_eq
    (fun _ hq => call_meets F.slot_bool_eq rfl F.entry_int_eq (F.args_int_eq_2 _ _) (bool_declines_dict b a es ep) ⟨ha, hq⟩)
    (fun _ hq => dict_declines ha rfl F.sub_bool_dict hq)
    (fun _ hq => wpAny_of_eq (rfl : isSame (.bool b) (.ref a) = pure false) hq) (.inr hu) h
theorem rc_dict_int (b : Int) (u : Tok) (ha : s.heap.get? a = some (dictO es ep)) (hu : A.units < cLine) (h : Q (.bool false) s) : wpAny (model prog w) A (richCompare .Eq (.ref a) (.int b u)) Q E s :=
  rc_eq_decline_or (k := false) ⟨_, ha, rfl⟩ (typeIs_int _ _ _) (by decide) F.sub_int_dict F.slot_dict_eq F.slot_int_eq_refl
    (fun _ hq => dict_declines ha (typeIs_int _ _ _) F.sub_int_dict hq)
    (fun _ hq => call_meets F.slot_int_eq_refl (typeIs_int _ _ _) F.entry_int_eq (F.args_int_eq_2 _ _) (int_declines_dict b u a es ep) ⟨ha, hq⟩)
    (fun _ hq => wpAny_of_eq (rfl : isSame (.ref a) (.int b u) = pure false) hq) (.inr hu) h
theorem rc_int_dict (b : Int) (u : Tok) (ha : s.heap.get? a = some (dictO es ep)) (hu : A.units < cLine) (h : Q (.bool false) s) : wpAny (model prog w) A (richCompare .Eq (.int b u) (.ref a)) Q E s :=
  rc_eq_decline_or (k := false) (typeIs_int _ _ _) ⟨_, ha, rfl⟩ (by decide) F.sub_dict_int F.slot_int_eq F.slot_dict_eq
    (fun _ hq => call_meets F.slot_int_eq (typeIs_int _ _ _) F.entry_int_eq (F.args_int_eq_2 _ _) (int_declines_dict b u a es ep) ⟨ha, hq⟩)
    (fun _ hq => dict_declines ha (typeIs_int _ _ _) F.sub_int_dict hq)
    (fun _ hq => wpAny_of_eq (rfl : isSame (.int b u) (.ref a) = pure false) hq) (.inr hu) h
theorem rc_dict_str (b : Str) (u : Tok) (ha : s.heap.get? a = some (dictO es ep)) (hu : A.units < cLine) (h : Q (.bool false) s) : wpAny (model prog w) A (richCompare .Eq (.ref a) (.str b u)) Q E s :=
  rc_eq_decline_or (k := false) ⟨_, ha, rfl⟩ (typeIs_str _ _ _) (by decide) F.sub_str_dict F.slot_dict_eq F.slot_str_eq_refl
    (fun _ hq => dict_declines ha (typeIs_str _ _ _) F.sub_str_dict hq)
    (fun _ hq => call_meets F.slot_str_eq_refl (typeIs_str _ _ _) F.entry_str_eq (F.args_str_eq_2 _ _) (str_declines_dict b u a es ep) ⟨ha, hq⟩)
    (fun _ hq => wpAny_of_eq (rfl : isSame (.ref a) (.str b u) = pure false) hq) (.inr hu) h
theorem rc_str_dict (b : Str) (u : Tok) (ha : s.heap.get? a = some (dictO es ep)) (hu : A.units < cLine) (h : Q (.bool false) s) : wpAny (model prog w) A (richCompare .Eq (.str b u) (.ref a)) Q E s :=
  rc_eq_decline_or (k := false) (typeIs_str _ _ _) ⟨_, ha, rfl⟩ (by decide) F.sub_dict_str F.slot_str_eq F.slot_dict_eq
    (fun _ hq => call_meets F.slot_str_eq (typeIs_str _ _ _) F.entry_str_eq (F.args_str_eq_2 _ _) (str_declines_dict b u a es ep) ⟨ha, hq⟩)
    (fun _ hq => dict_declines ha (typeIs_str _ _ _) F.sub_str_dict hq)
    (fun _ hq => wpAny_of_eq (rfl : isSame (.str b u) (.ref a) = pure false) hq) (.inr hu) h
theorem ne_cls {x y : Addr} {ox oy : Obj} (hx : s.heap.get? x = some ox) (hy : s.heap.get? y = some oy) (hc : ox.cls ≠ oy.cls) : x ≠ y := by
  rintro rfl
  rw [hx] at hy
  cases hy
  exact hc rfl
theorem rc_dict_list {items : Array Value} (ha : s.heap.get? a = some (dictO es ep)) (hl : s.heap.IsList l items) (hu : A.units < cLine) (h : Q (.bool false) s) : wpAny (model prog w) A (richCompare .Eq (.ref a) (.ref l)) Q E s := by
  obtain ⟨⟨cls, dd, data, sl⟩, ho, hc, n, hd⟩ := id hl
  simp only at hc hd
  subst hc hd
  exact rc_eq_decline_or (k := false) ⟨_, ha, rfl⟩ ⟨_, ho, rfl⟩ (by decide) F.sub_list_dict F.slot_dict_eq F.slot_list_eq_refl
    (fun _ hq => dict_declines ha ⟨_, ho, rfl⟩ F.sub_list_dict hq)
    (fun _ hq => call_meets F.slot_list_eq_refl ⟨_, ho, rfl⟩ F.entry_list_eq (F.args_list_eq_2 _ _) (list_declines_dict l a items n dd sl es ep) ⟨ho, ha, hq⟩)
    (fun _ hq => wpAny_isSame_ref_other' (ne_cls ha ho (by show Value.type _ ≠ Value.type _; decide)) ha ho (by show Value.type _ ≠ Value.type _; decide) hq) (.inr hu) h
theorem rc_list_dict {items : Array Value} (ha : s.heap.get? a = some (dictO es ep)) (hl : s.heap.IsList l items) (hu : A.units < cLine) (h : Q (.bool false) s) : wpAny (model prog w) A (richCompare .Eq (.ref l) (.ref a)) Q E s := by
  obtain ⟨⟨cls, dd, data, sl⟩, ho, hc, n, hd⟩ := id hl
  simp only at hc hd
  subst hc hd
  exact rc_eq_decline_or (k := false) ⟨_, ho, rfl⟩ ⟨_, ha, rfl⟩ (by decide) F.sub_dict_list F.slot_list_eq F.slot_dict_eq
    (fun _ hq => call_meets F.slot_list_eq ⟨_, ho, rfl⟩ F.entry_list_eq (F.args_list_eq_2 _ _) (list_declines_dict l a items n dd sl es ep) ⟨ho, ha, hq⟩)
    (fun _ hq => dict_declines ha ⟨_, ho, rfl⟩ F.sub_list_dict hq)
    (fun _ hq => wpAny_isSame_ref_other' (ne_cls ho ha (by show Value.type _ ≠ Value.type _; decide)) ho ha (by show Value.type _ ≠ Value.type _; decide) hq) (.inr hu) h
theorem rc_dict_tuple {items : Array Value} (ha : s.heap.get? a = some (dictO es ep)) (hl : s.heap.IsTuple l items) (hu : A.units < cLine) (h : Q (.bool false) s) : wpAny (model prog w) A (richCompare .Eq (.ref a) (.ref l)) Q E s := by
  obtain ⟨⟨cls, dd, data, sl⟩, ho, hc, n, hd⟩ := id hl
  simp only at hc hd
  subst hc hd
  have hne : a ≠ l := ne_cls ha ho (by show Value.type _ ≠ Value.type _; decide)
  refine rc_eq_decline_or (k := false) ⟨_, ha, rfl⟩ ⟨_, ho, rfl⟩ (by decide) F.sub_tuple_dict F.slot_dict_eq F.slot_tuple_eq_refl
    (fun _ hq => dict_declines ha ⟨_, ho, rfl⟩ F.sub_tuple_dict hq)
    (fun _ hq => call_meets F.slot_tuple_eq_refl ⟨_, ho, rfl⟩ F.entry_tuple_eq (F.args_tuple_eq_2 _ _) (tuple_declines_dict l a items n dd sl es ep) ⟨ho, ha, hq⟩)
    (fun Q' hq => ?_) (.inr hu) h
  show wpAny (model prog w) A (if (a == l) = true then pure true else _) Q' E s
  rw [if_neg (by simpa using hne)]
  refine wpAny_bind (wpAny_load ha (wpAny_bind (wpAny_load ho ?_)))
  exact wpAny_pure hq
theorem rc_tuple_dict {items : Array Value} (ha : s.heap.get? a = some (dictO es ep)) (hl : s.heap.IsTuple l items) (hu : A.units < cLine) (h : Q (.bool false) s) : wpAny (model prog w) A (richCompare .Eq (.ref l) (.ref a)) Q E s := by
  obtain ⟨⟨cls, dd, data, sl⟩, ho, hc, n, hd⟩ := id hl
  simp only at hc hd
  subst hc hd
  exact rc_eq_decline_or (k := false) ⟨_, ho, rfl⟩ ⟨_, ha, rfl⟩ (by decide) F.sub_dict_tuple F.slot_tuple_eq F.slot_dict_eq
    (fun _ hq => call_meets F.slot_tuple_eq ⟨_, ho, rfl⟩ F.entry_tuple_eq (F.args_tuple_eq_2 _ _) (tuple_declines_dict l a items n dd sl es ep) ⟨ho, ha, hq⟩)
    (fun _ hq => dict_declines ha ⟨_, ho, rfl⟩ F.sub_tuple_dict hq)
    (fun _ hq => wpAny_isSame_ref_other' (ne_cls ho ha (by show Value.type _ ≠ Value.type _; decide)) ho ha (by show Value.type _ ≠ Value.type _; decide) hq) (.inr hu) h
end
end Kq

namespace Kq
open PySem PySem.Spec PyProof.Rows L2
open PySem.SeqAt PySem.MeetsSeq

mutual
def nrm : PyData → PyData
  | .none => .none
  | .bool b => .int (if b then 1 else 0)
  | .int i => .int i
  | .str x => .str x
  | .list xs => .list (nrms xs)
  | .tuple xs => .tuple (nrms xs)
  | .dict kvs => .dict kvs
def nrms : List PyData → List PyData
  | [] => []
  | x :: xs => nrm x :: nrms xs
end
theorem nrms_map : ∀ xs, nrms xs = xs.map nrm
  | [] => by simp only [nrms, List.map_nil]
  | x :: xs => by simp only [nrms, List.map_cons, nrms_map xs]
mutual
theorem Dq.fn {T : Tb} {H : Hp} : ∀ {v : V} {d e : PyData}, Dq T H v d → Dq T H v e → d = e
  | _, _, _, .non, h => by cases h; rfl
  | _, _, _, .bl b, h => by cases h; rfl
  | _, _, _, .int i, h => by cases h; rfl
  | _, _, _, .str x, h => by cases h; rfl
  | _, _, _, .lst e q, h => by
    cases h with
    | lst e' q' => rw [e] at e'; cases e'; rw [Dqs.fn q q']
    | tup e' q' => rw [e] at e'; cases e'
    | dct e' => rw [e] at e'; cases e'
  | _, _, _, .tup e q, h => by
    cases h with
    | tup e' q' => rw [e] at e'; cases e'; rw [Dqs.fn q q']
    | lst e' q' => rw [e] at e'; cases e'
    | dct e' => rw [e] at e'; cases e'
  | _, _, _, .dct e, h => by
    cases h with
    | dct e' => rfl
    | lst e' q' => rw [e] at e'; cases e'
    | tup e' q' => rw [e] at e'; cases e'
theorem Dqs.fn {T : Tb} {H : Hp} : ∀ {v : List V} {d e : List PyData}, Dqs T H v d → Dqs T H v e → d = e
  | _, _, _, .nil, h => by cases h; rfl
  | _, _, _, .cons a b, h => by
    cases h with
    | cons a' b' => rw [Dq.fn a a', Dqs.fn b b']
end

section
variable {T : Tb} {X : Cx} {pins : List (Addr × Obj)} {σ : L2.St} {H : Hp} {s : Shared}
def RcW (P : Program) (w : World) (A : Around) (s : Shared) (u v : Value) (b : Bool) : Prop :=
  ∀ (E Q : Value → Shared → Prop), Q (.bool b) s → wpAny (model P w) A (richCompare .Eq u v) Q E s
def notFl : Value → Bool
  | .float _ _ => false
  | _ => true
theorem eqIn_rc {P : Program} {w : World} {A : Around} {u v : Value} {b : Bool} (h : RcW P w A s u v b) (hs : u = v → b = true) (hf : notFl u = true) : EqIn P w A s u v b := by
  intro E Q hq
  by_cases hab : u = v
  · subst hab
    have := hs rfl
    subst this
    exact (EqAt.same _).inModel P w E Q hq
  · unfold eqBool
    refine wpAny_holding ?_
    refine wpAny_ite_split (fun z => absurd (eq_of_beq z) hab) (fun _ => ?_)
    cases u with
    | float x t => exact absurd (show false = true from hf) Bool.false_ne_true
    | _ => exact wpAny_bind (h E _ (wpAny_truthy_bool hq))
theorem dict_at (I : Inv X pins σ H s) {a : Addr} (e : H a = some (.dK T)) : ∃ es ep, s.heap.get? a = some (dictO es ep) := by
  obtain ⟨z, hy, vs, rv, o, es, ep, ho, hx, hd, _⟩ : ObjOk X.prog X.w H s.heap a (.dK T) := I.hok _ _ e
  exact ⟨es, ep, by rw [ho, exact_eq hx hd]⟩
theorem list_at (I : Inv X pins σ H s) {a : Addr} {xs : List V} (e : H a = some (.lst xs)) : ∃ its, Vals xs its ∧ s.heap.IsList a its.toArray := by
  obtain ⟨z, its, n, rv, hget⟩ : ObjOk X.prog X.w H s.heap a (.lst xs) := I.hok _ _ e
  exact ⟨its, rv, _, hget, rfl, n, rfl⟩
theorem tuple_at (I : Inv X pins σ H s) {a : Addr} {xs : List V} (e : H a = some (.tup xs)) : ∃ its, Vals xs its ∧ s.heap.IsTuple a its.toArray := by
  obtain ⟨z, its, rv, ht⟩ : ObjOk X.prog X.w H s.heap a (.tup xs) := I.hok _ _ e
  exact ⟨its, rv, ht⟩
theorem scal_dict {k : Key} : True := trivial
theorem kD_inj : ∀ {k : Key}, kV k = kV k := rfl
/-- two dicts of the table -/
theorem rc_dict_dict (I : Inv X pins σ H s) (hT : flatT T = true) {a b : Addr} (ea : H a = some (.dK T)) (eb : H b = some (.dK T)) {A : Around} (hu : A.units < cLine) : RcW X.prog X.w A s (.ref a) (.ref b) true := by
  intro E Q hq
  obtain ⟨za, ya, va, ra, da⟩ : ObjOk X.prog X.w H s.heap a (.dK T) := I.hok _ _ ea
  obtain ⟨zb, yb, vb, rb, db⟩ : ObjOk X.prog X.w H s.heap b (.dK T) := I.hok _ _ eb
  have nd : (va.map (·.1)).Nodup := by obtain ⟨_, _, _, _, _, _, _, _, nd⟩ := da; exact nd
  have ndb : (vb.map (·.1)).Nodup := by obtain ⟨_, _, _, _, _, _, _, _, nd⟩ := db; exact nd
  have key : ∀ (k : Key) (v y : Value), (k, v) ∈ va → valueAt vb k = some y → EqIn X.prog X.w A.in1 s v y true := by
    intro k v y hm hv
    -- both are the table's value at k
    have lem : ∀ {T' : Tb} {l1 l2 : List (Key × Value)}, KV T' l1 → KV T' l2 → flatT T' = true → (l1.map (·.1)).Nodup → (k, v) ∈ l1 → valueAt l2 k = some y → ∃ x, RelV x v ∧ RelV x y ∧ flat1 x = true := by
      intro T' l1 l2 r1
      induction r1 generalizing l2 with
      | nil => intro _ _ _ hm; cases hm
      | cons h1 t1 ih =>
        intro r2 hf hn hm hv
        rename_i p q ps qs
        cases r2 with
        | cons h2 t2 =>
          rename_i q2 qs2
          rw [flatT, List.all_cons, Bool.and_eq_true] at hf
          rw [List.map_cons, List.nodup_cons] at hn
          rcases List.mem_cons.mp hm with z | z
          · subst z
            have e1 : p.1 = k := h1.1
            have e2 : q2.1 = k := h2.1.symm.trans e1
            unfold valueAt at hv
            rw [List.find?_cons_of_pos (by simp [e2])] at hv
            have : q2.2 = y := Option.some.inj hv
            exact ⟨p.2, h1.2, this ▸ h2.2, hf.1⟩
          · have nk : q2.1 ≠ k := by
              intro e
              have e3 : q.1 = k := h1.1.symm.trans (h2.1.trans e)
              exact hn.1 (List.mem_map.mpr ⟨_, z, e3.symm⟩)
            refine ih t2 hf.2 hn.2 z ?_
            unfold valueAt at hv ⊢
            rw [List.find?_cons_of_neg (by simpa using nk)] at hv
            exact hv
    obtain ⟨x, r1, r2, hf⟩ := lem ra rb hT nd hm hv
    have hx : flatB x = true := by
      cases x with
      | byt _ => exact absurd (show false = true from hf) Bool.false_ne_true
      | flt _ => exact absurd (show false = true from hf) Bool.false_ne_true
      | ref _ => exact absurd (show false = true from hf) Bool.false_ne_true
      | ty _ => exact absurd (show false = true from hf) Bool.false_ne_true
      | _ => rfl
    exact (eqAt_same r1 r2 hx).inModel _ _
  have hl : va.length = vb.length := by rw [← ra.length, ← rb.length]
  refine PySem.W.keq_eqIn (knd := mixKind X.prog X.w) (r := true) ya yb da db hu (fun _ => ?_) ?_
  · have hall : (va.all fun p => (valueAt vb p.1).isSome && (fun _ => true) p.1) = true := by
      rw [List.all_eq_true]
      intro p hp
      have hk : p.1 ∈ vb.map (·.1) := by
        rw [← keys_same rb, keys_same ra]
        exact List.mem_map.mpr ⟨p, hp, rfl⟩
      obtain ⟨q, hq1, hq2⟩ := List.mem_map.mp hk
      have : (valueAt vb p.1).isSome = true := by
        unfold valueAt
        rw [Option.isSome_map, List.find?_isSome]
        exact ⟨q, hq1, by simp [hq2]⟩
      rw [this]
      rfl
    have := PySem.W.KeqHitsIn.of (prog := X.prog) (w := X.w) (A := A.in1) (s := s) (kb := vb) (e := fun _ => true) va key
    rw [hall] at this
    exact this
  · rw [hl]
    simpa using hq
end
end Kq

namespace Kq
open PySem PySem.Spec PyProof.Rows L2
open PySem.SeqAt PySem.MeetsSeq
section
variable {T : Tb} {X : Cx} {pins : List (Addr × Obj)} {σ : L2.St} {H : Hp} {s : Shared}
theorem rel_notFl {T : Tb} {H : Hp} {v : V} {d : PyData} {u : Value} (h : Dq T H v d) (r : RelV v u) : notFl u = true := by
  cases h with
  | non => cases r; rfl
  | bl b => cases r; rfl
  | int i => obtain ⟨t, rfl⟩ := r; rfl
  | str x => obtain ⟨t, rfl⟩ := r; rfl
  | lst _ _ => cases r; rfl
  | tup _ _ => cases r; rfl
  | dct _ => cases r; rfl
mutual
theorem rc_eq (I : Inv X pins σ H s) (hT : flatT T = true) : ∀ (v : V) (d e : PyData) (y : V) (u w : Value) (A : Around), Dq T H v d → Dq T H y e → RelV v u → RelV y w → A.units + d.depth < cLine →
    ∃ b, (b = true ↔ nrm d = nrm e) ∧ RcW X.prog X.w A s u w b
  | _, _, e, y, u, w, A, .non, h2, r1, r2, hu => by
    have hu0 : A.units < cLine := Nat.lt_of_le_of_lt (Nat.le_add_right _ _) hu
    cases r1
    cases h2 with
    | non =>
      cases r2
      exact ⟨true, by simp [nrm], fun E Q h => RcAt.none_none   _ _ E Q h⟩
    | bl q =>
      cases r2
      exact ⟨false, by simp [nrm], fun E Q h => RcAt.none_bool  q _ _ E Q h⟩
    | int q =>
      obtain ⟨t2, rfl⟩ := r2
      exact ⟨false, by simp [nrm], fun E Q h => RcAt.none_int  q t2 _ _ E Q h⟩
    | str q =>
      obtain ⟨t2, rfl⟩ := r2
      exact ⟨false, by simp [nrm], fun E Q h => RcAt.none_str  q t2 _ _ E Q h⟩
    | lst e2 q2 =>
      cases r2
      obtain ⟨its2, rv2, hl2⟩ := list_at I e2
      exact ⟨false, by simp [nrm], fun E Q h => RcAt.none_list  hl2 hu0 _ _ E Q h⟩
    | tup e2 q2 =>
      cases r2
      obtain ⟨its2, rv2, hl2⟩ := tuple_at I e2
      exact ⟨false, by simp [nrm], fun E Q h => RcAt.none_tuple  hl2 hu0 _ _ E Q h⟩
    | dct e2 =>
      cases r2
      obtain ⟨es2, ep2, ha2⟩ := dict_at I e2
      exact ⟨false, by simp [nrm, tD], fun E Q h => rc_none_dict  ha2 hu0 h⟩
  | _, _, e, y, u, w, A, .bl p, h2, r1, r2, hu => by
    have hu0 : A.units < cLine := Nat.lt_of_le_of_lt (Nat.le_add_right _ _) hu
    cases r1
    cases h2 with
    | non =>
      cases r2
      exact ⟨false, by simp [nrm], fun E Q h => RcAt.bool_none p  _ _ E Q h⟩
    | bl q =>
      cases r2
      exact ⟨(p == q), by cases p <;> cases q <;> simp [nrm], fun E Q h => RcAt.bool_bool p q _ _ E Q h⟩
    | int q =>
      obtain ⟨t2, rfl⟩ := r2
      exact ⟨((if p then 1 else 0) == q), by cases p <;> simp [nrm], fun E Q h => RcAt.bool_int p q t2 _ _ E Q h⟩
    | str q =>
      obtain ⟨t2, rfl⟩ := r2
      exact ⟨false, by simp [nrm], fun E Q h => RcAt.bool_str p q t2 _ _ E Q h⟩
    | lst e2 q2 =>
      cases r2
      obtain ⟨its2, rv2, hl2⟩ := list_at I e2
      exact ⟨false, by simp [nrm], fun E Q h => RcAt.bool_list p hl2 hu0 _ _ E Q h⟩
    | tup e2 q2 =>
      cases r2
      obtain ⟨its2, rv2, hl2⟩ := tuple_at I e2
      exact ⟨false, by simp [nrm], fun E Q h => RcAt.bool_tuple p hl2 hu0 _ _ E Q h⟩
    | dct e2 =>
      cases r2
      obtain ⟨es2, ep2, ha2⟩ := dict_at I e2
      exact ⟨false, by simp [nrm, tD], fun E Q h => rc_bool_dict p ha2 hu0 h⟩
  | _, _, e, y, u, w, A, .int p, h2, r1, r2, hu => by
    have hu0 : A.units < cLine := Nat.lt_of_le_of_lt (Nat.le_add_right _ _) hu
    obtain ⟨t, rfl⟩ := r1
    cases h2 with
    | non =>
      cases r2
      exact ⟨false, by simp [nrm], fun E Q h => RcAt.int_none p t  _ _ E Q h⟩
    | bl q =>
      cases r2
      exact ⟨(p == (if q then 1 else 0)), by cases q <;> simp [nrm], fun E Q h => RcAt.int_bool p t q _ _ E Q h⟩
    | int q =>
      obtain ⟨t2, rfl⟩ := r2
      exact ⟨(p == q), by simp [nrm], fun E Q h => RcAt.int_int p t q t2 _ _ E Q h⟩
    | str q =>
      obtain ⟨t2, rfl⟩ := r2
      exact ⟨false, by simp [nrm], fun E Q h => RcAt.int_str p t q t2 _ _ E Q h⟩
    | lst e2 q2 =>
      cases r2
      obtain ⟨its2, rv2, hl2⟩ := list_at I e2
      exact ⟨false, by simp [nrm], fun E Q h => RcAt.int_list p t hl2 hu0 _ _ E Q h⟩
    | tup e2 q2 =>
      cases r2
      obtain ⟨its2, rv2, hl2⟩ := tuple_at I e2
      exact ⟨false, by simp [nrm], fun E Q h => RcAt.int_tuple p t hl2 hu0 _ _ E Q h⟩
    | dct e2 =>
      cases r2
      obtain ⟨es2, ep2, ha2⟩ := dict_at I e2
      exact ⟨false, by simp [nrm, tD], fun E Q h => rc_int_dict p t ha2 hu0 h⟩
  | _, _, e, y, u, w, A, .str p, h2, r1, r2, hu => by
    have hu0 : A.units < cLine := Nat.lt_of_le_of_lt (Nat.le_add_right _ _) hu
    obtain ⟨t, rfl⟩ := r1
    cases h2 with
    | non =>
      cases r2
      exact ⟨false, by simp [nrm], fun E Q h => RcAt.str_none p t  _ _ E Q h⟩
    | bl q =>
      cases r2
      exact ⟨false, by simp [nrm], fun E Q h => RcAt.str_bool p t q _ _ E Q h⟩
    | int q =>
      obtain ⟨t2, rfl⟩ := r2
      exact ⟨false, by simp [nrm], fun E Q h => RcAt.str_int p t q t2 _ _ E Q h⟩
    | str q =>
      obtain ⟨t2, rfl⟩ := r2
      exact ⟨(p == q), by simp [nrm], fun E Q h => RcAt.str_str p t q t2 _ _ E Q h⟩
    | lst e2 q2 =>
      cases r2
      obtain ⟨its2, rv2, hl2⟩ := list_at I e2
      exact ⟨false, by simp [nrm], fun E Q h => RcAt.str_list p t hl2 hu0 _ _ E Q h⟩
    | tup e2 q2 =>
      cases r2
      obtain ⟨its2, rv2, hl2⟩ := tuple_at I e2
      exact ⟨false, by simp [nrm], fun E Q h => RcAt.str_tuple p t hl2 hu0 _ _ E Q h⟩
    | dct e2 =>
      cases r2
      obtain ⟨es2, ep2, ha2⟩ := dict_at I e2
      exact ⟨false, by simp [nrm, tD], fun E Q h => rc_str_dict p t ha2 hu0 h⟩
  | _, _, e, y, u, w, A, .lst (a := a) (xs := xs) (ds := ds) e1 q1, h2, r1, r2, hu => by
    have hu0 : A.units < cLine := Nat.lt_of_le_of_lt (Nat.le_add_right _ _) hu
    cases r1
    obtain ⟨its, rv, hl⟩ := list_at I e1
    cases h2 with
    | non =>
      cases r2
      exact ⟨false, by simp [nrm], fun E Q h => RcAt.list_none  hl hu0 _ _ E Q h⟩
    | bl q =>
      cases r2
      exact ⟨false, by simp [nrm], fun E Q h => RcAt.list_bool q hl hu0 _ _ E Q h⟩
    | int q =>
      obtain ⟨t2, rfl⟩ := r2
      exact ⟨false, by simp [nrm], fun E Q h => RcAt.list_int q t2 hl hu0 _ _ E Q h⟩
    | str q =>
      obtain ⟨t2, rfl⟩ := r2
      exact ⟨false, by simp [nrm], fun E Q h => RcAt.list_str q t2 hl hu0 _ _ E Q h⟩
    | lst e2 q2 =>
      cases r2
      obtain ⟨its2, rv2, hl2⟩ := list_at I e2
      rename_i xs2 ds2
      have hu1 : A.in1.units + PyData.depthAll ds < cLine := by
        simp only [PyData.depth] at hu
        show A.units + 1 + _ < cLine
        omega
      obtain ⟨f, hf1, hf2⟩ := items_eq I hT ds q1 q2 rv rv2 hu1
      have l1 := q1.length
      have l2 := q2.length
      have l3 := rv.length
      have l4 := rv2.length
      by_cases hz : its.toArray.size = its2.toArray.size
      · refine ⟨(List.range its.toArray.size).all f, ?_, fun E Q h => rcIn_lists hl hl2 hz hu0 (fun j h1 h2 => ?_) h⟩
        · rw [hf2 its.toArray.size (by rw [List.size_toArray, ← l3, l1]) (by rw [hz, List.size_toArray, ← l4, l2])]
          simp only [nrm, PyData.list.injEq]
        · have := hf1 j (by simpa using h1) (by simpa using h2)
          simpa using this
      · refine ⟨false, ?_, fun E Q h => RcAt.lists_lengths hl hl2 (by simpa using hz) hu0 _ _ E Q h⟩
        simp only [nrm, PyData.list.injEq, Bool.false_eq_true, false_iff]
        intro z
        have := congrArg List.length z
        rw [nrms_map, nrms_map, List.length_map, List.length_map] at this
        rw [List.size_toArray, List.size_toArray] at hz
        omega
    | tup e2 q2 =>
      cases r2
      obtain ⟨its2, rv2, hl2⟩ := tuple_at I e2
      exact ⟨false, by simp [nrm], fun E Q h => RcAt.list_tuple hl hl2 hu0 _ _ E Q h⟩
    | dct e2 =>
      cases r2
      obtain ⟨es2, ep2, ha2⟩ := dict_at I e2
      exact ⟨false, by simp [nrm, tD], fun E Q h => rc_list_dict ha2 hl hu0 h⟩
  | _, _, e, y, u, w, A, .tup (a := a) (xs := xs) (ds := ds) e1 q1, h2, r1, r2, hu => by
    have hu0 : A.units < cLine := Nat.lt_of_le_of_lt (Nat.le_add_right _ _) hu
    cases r1
    obtain ⟨its, rv, hl⟩ := tuple_at I e1
    cases h2 with
    | non =>
      cases r2
      exact ⟨false, by simp [nrm], fun E Q h => RcAt.tuple_none  hl hu0 _ _ E Q h⟩
    | bl q =>
      cases r2
      exact ⟨false, by simp [nrm], fun E Q h => RcAt.tuple_bool q hl hu0 _ _ E Q h⟩
    | int q =>
      obtain ⟨t2, rfl⟩ := r2
      exact ⟨false, by simp [nrm], fun E Q h => RcAt.tuple_int q t2 hl hu0 _ _ E Q h⟩
    | str q =>
      obtain ⟨t2, rfl⟩ := r2
      exact ⟨false, by simp [nrm], fun E Q h => RcAt.tuple_str q t2 hl hu0 _ _ E Q h⟩
    | lst e2 q2 =>
      cases r2
      obtain ⟨its2, rv2, hl2⟩ := list_at I e2
      exact ⟨false, by simp [nrm], fun E Q h => RcAt.tuple_list hl hl2 hu0 _ _ E Q h⟩
    | tup e2 q2 =>
      cases r2
      obtain ⟨its2, rv2, hl2⟩ := tuple_at I e2
      rename_i xs2 ds2
      have hu1 : A.in1.units + PyData.depthAll ds < cLine := by
        simp only [PyData.depth] at hu
        show A.units + 1 + _ < cLine
        omega
      obtain ⟨f, hf1, hf2⟩ := items_eq I hT ds q1 q2 rv rv2 hu1
      have l1 := q1.length
      have l2 := q2.length
      have l3 := rv.length
      have l4 := rv2.length
      refine ⟨(List.range (min its.toArray.size its2.toArray.size)).all f && its.toArray.size == its2.toArray.size, ?_, fun E Q h => rcIn_tuples hl hl2 hu0 (fun j h1 h2 => ?_) h⟩
      · by_cases hz : its.toArray.size = its2.toArray.size
        · rw [← hz, Nat.min_self, beq_self_eq_true, Bool.and_true, hf2 its.toArray.size (by rw [List.size_toArray, ← l3, l1]) (by rw [hz, List.size_toArray, ← l4, l2])]
          simp only [nrm, PyData.tuple.injEq]
        · rw [show (its.toArray.size == its2.toArray.size) = false from by simpa using hz, Bool.and_false]
          simp only [nrm, PyData.tuple.injEq, Bool.false_eq_true, false_iff]
          intro z
          have := congrArg List.length z
          rw [nrms_map, nrms_map, List.length_map, List.length_map] at this
          rw [List.size_toArray, List.size_toArray] at hz
          omega
      · have := hf1 j (by simpa using h1) (by simpa using h2)
        simpa using this
    | dct e2 =>
      cases r2
      obtain ⟨es2, ep2, ha2⟩ := dict_at I e2
      exact ⟨false, by simp [nrm, tD], fun E Q h => rc_tuple_dict ha2 hl hu0 h⟩
  | _, _, e, y, u, w, A, .dct (a := a) e1, h2, r1, r2, hu => by
    have hu0 : A.units < cLine := Nat.lt_of_le_of_lt (Nat.le_add_right _ _) hu
    cases r1
    obtain ⟨es, ep, ha⟩ := dict_at I e1
    cases h2 with
    | non =>
      cases r2
      exact ⟨false, by simp [nrm, tD], fun E Q h => rc_dict_none  ha hu0 h⟩
    | bl q =>
      cases r2
      exact ⟨false, by simp [nrm, tD], fun E Q h => rc_dict_bool q ha hu0 h⟩
    | int q =>
      obtain ⟨t2, rfl⟩ := r2
      exact ⟨false, by simp [nrm, tD], fun E Q h => rc_dict_int q t2 ha hu0 h⟩
    | str q =>
      obtain ⟨t2, rfl⟩ := r2
      exact ⟨false, by simp [nrm, tD], fun E Q h => rc_dict_str q t2 ha hu0 h⟩
    | lst e2 q2 =>
      cases r2
      obtain ⟨its2, rv2, hl2⟩ := list_at I e2
      exact ⟨false, by simp [nrm, tD], fun E Q h => rc_dict_list ha hl2 hu0 h⟩
    | tup e2 q2 =>
      cases r2
      obtain ⟨its2, rv2, hl2⟩ := tuple_at I e2
      exact ⟨false, by simp [nrm, tD], fun E Q h => rc_dict_tuple ha hl2 hu0 h⟩
    | dct e2 =>
      cases r2
      obtain ⟨es2, ep2, ha2⟩ := dict_at I e2
      exact ⟨true, by simp, rc_dict_dict I hT e1 e2 hu0⟩
theorem items_eq (I : Inv X pins σ H s) (hT : flatT T = true) : ∀ (ds : List PyData) {es : List PyData} {vs ys : List V} {us ws : List Value} {A : Around}, Dqs T H vs ds → Dqs T H ys es → Vals vs us → Vals ys ws → A.units + PyData.depthAll ds < cLine →
    ∃ f : Nat → Bool, (∀ j (h1 : j < us.length) (h2 : j < ws.length), EqIn X.prog X.w A s us[j] ws[j] (f j)) ∧ ∀ n, n = ds.length → n = es.length → ((List.range n).all f = true ↔ nrms ds = nrms es)
  | _, es, _, ys, us, ws, A, .nil, q2, r1, r2, hu => by
    cases r1
    refine ⟨fun _ => true, fun j h1 => absurd h1 (Nat.not_lt_zero j), fun n h1 h2 => ?_⟩
    have h1' : n = 0 := h1
    subst h1'
    cases es with
    | nil => simp
    | cons a b => simp at h2
  | _, _, _, _, us, ws, A, .cons (d := d) (ds := ds) a1 b1, q2, r1, r2, hu => by
    cases r1 with
    | cons rv1 rs1 =>
      cases q2 with
      | nil =>
        cases r2
        refine ⟨fun _ => true, fun j _ h2 => absurd h2 (Nat.not_lt_zero j), fun n h1 h2 => ?_⟩
        rw [h2] at h1
        simp at h1
      | cons a2 b2 =>
        rename_i y ys e es
        cases r2 with
        | cons rv2 rs2 =>
          have hu1 : A.units + d.depth < cLine := by simp only [PyData.depthAll] at hu; omega
          have hu2 : A.units + PyData.depthAll ds < cLine := by simp only [PyData.depthAll] at hu; omega
          obtain ⟨b, hb1, hb2⟩ := rc_eq I hT _ _ _ _ _ _ A a1 a2 rv1 rv2 hu1
          obtain ⟨f, hf1, hf2⟩ := items_eq I hT ds (A := A) b1 b2 rs1 rs2 hu2
          refine ⟨fun j => match j with | 0 => b | j + 1 => f j, fun j h1 h2 => ?_, fun n h1 h2 => ?_⟩
          · cases j with
            | zero =>
              refine eqIn_rc hb2 (fun z => ?_) (rel_notFl a1 rv1)
              have z' := z
              simp only [List.getElem_cons_zero] at z'
              rw [z'] at rv1
              have := RelV.inj rv1 rv2
              subst this
              exact hb1.mpr (by rw [Dq.fn a1 a2])
            | succ j => exact hf1 j (Nat.lt_of_succ_lt_succ h1) (Nat.lt_of_succ_lt_succ h2)
          · cases n with
            | zero => simp at h1
            | succ n =>
              have := hf2 n (by simpa using h1) (by simpa using h2)
              rw [List.range_succ_eq_map, List.all_cons, List.all_map]
              simp only [nrms, List.cons.injEq, Bool.and_eq_true]
              rw [← this, ← hb1]
              exact Iff.rfl
end
end
/-! ### the rules -/
def rEqQ (T : Tb) : R2 := fun x y H Q => ∃ d e, Dq T H x d ∧ Dq T H y e ∧ d.depth ≤ 60 ∧ ∀ b : Bool, (b = true ↔ nrm d = nrm e) → Q (.bl b) H
theorem op_eqQ {T : Tb} {X : Cx} (hT : flatT T = true) (hu : X.A.units + 64 < cLine) : OpR X (compareOp .Eq) (rEqQ T) := by
  intro pins s σ H x y v u Q I rx ry h
  obtain ⟨d, e, hd, he, hp, q⟩ := h
  obtain ⟨b, h1, h2⟩ := rc_eq I hT x d e y v u X.A hd he rx ry (by omega)
  exact h2 _ _ ⟨.bl b, H, I, rfl, q b h1⟩
end Kq

namespace Kq
open PySem PySem.Spec PyProof.Rows L2

/-! ## == and != of instances with an own __eq__, against anything -/
/-- the class of a value -/
inductive TyOf (H : Hp) : V → Value → Prop
  | non : TyOf H .non (.type "NoneType")
  | bl (b : Bool) : TyOf H (.bl b) (.type "bool")
  | int (i : Int) : TyOf H (.int i) (.type "int")
  | str (x : Str) : TyOf H (.str x) (.type "str")
  | lst {a : Addr} {xs : List V} : H a = some (.lst xs) → TyOf H (.ref a) (.type "list")
  | tup {a : Addr} {xs : List V} : H a = some (.tup xs) → TyOf H (.ref a) (.type "tuple")
  | dct {a : Addr} {kvs : List (Key × V)} : H a = some (.dK kvs) → TyOf H (.ref a) (.type "dict")
  | ins {a C dx : Addr} {fs : List (Str × V)} : H a = some (.ins C dx fs) → TyOf H (.ref a) (.ref C)
theorem Dq.ty {T : Tb} {H : Hp} {v : V} {d : PyData} (h : Dq T H v d) : ∃ t : String, TyOf H v (.type t) ∧ t ∈ ["NoneType", "bool", "int", "str", "list", "tuple", "dict"] := by
  cases h with
  | non => exact ⟨_, .non, by simp⟩
  | bl b => exact ⟨_, .bl b, by simp⟩
  | int i => exact ⟨_, .int i, by simp⟩
  | str x => exact ⟨_, .str x, by simp⟩
  | lst e _ => exact ⟨_, .lst e, by simp⟩
  | tup e _ => exact ⟨_, .tup e, by simp⟩
  | dct e => exact ⟨_, .dct e, by simp⟩
section
variable {X : Cx} {pins : List (Addr × Obj)} {σ : L2.St} {H : Hp} {s : Shared}
theorem TyOf.looks (I : Inv X pins σ H s) {x : V} {tb : Value} {u : Value} (h : TyOf H x tb) (r : RelV x u) : PySem.W.Looks (model X.prog X.w) s.heap (typeOf u) tb := by
  intro A Q E s' k q
  have go : ∀ {t : String}, s'.TypeIs u t → tb = .type t → wpAny (model X.prog X.w) A (typeOf u) Q E s' := fun ht e => by
    subst e
    exact wpAny_typeOf ht q
  cases h with
  | non => cases r; exact go rfl rfl
  | bl b => cases r; exact go rfl rfl
  | int i => obtain ⟨t, rfl⟩ := r; exact go (typeIs_int _ _ _) rfl
  | str x => obtain ⟨t, rfl⟩ := r; exact go (typeIs_str _ _ _) rfl
  | lst e =>
    cases r
    obtain ⟨z, its, n, rv, hget⟩ : ObjOk X.prog X.w H s.heap _ (.lst _) := I.hok _ _ e
    exact go ⟨_, k _ _ hget, rfl⟩ rfl
  | tup e =>
    cases r
    obtain ⟨z, its, rv, o, ho, hc, _⟩ : ObjOk X.prog X.w H s.heap _ (.tup _) := I.hok _ _ e
    exact go ⟨_, k _ _ ho, hc⟩ rfl
  | dct e =>
    cases r
    obtain ⟨z, hy, vs, rv, o, es, ep, ho, hx, _⟩ : ObjOk X.prog X.w H s.heap _ (.dK _) := I.hok _ _ e
    exact go ⟨_, k _ _ ho, hx.1⟩ rfl
  | ins e =>
    cases r
    obtain ⟨mA, O, _⟩ := ins_get I.hok e
    obtain ⟨od, J, _⟩ := O.look
    exact J.type A Q E s' k q
end
theorem notFirst_ty (K : PySem.W.Frag) (C : Addr) {t : String} (h : t ∈ ["NoneType", "bool", "int", "str", "list", "tuple", "dict"]) : PySem.W.notFirst K C (.type t) = true := by
  have go : ∀ {t : String} {l : List String}, fastBuiltinMro t = some (l.map Value.type) → PySem.W.notFirst K C (.type t) = true := by
    intro t l e
    have : PySem.W.subIn K (.type t) (.ref C) = some false := by
      show (fastBuiltinMro t).map (·.contains (.ref C)) = some false
      rw [e, Option.map_some]
      congr 1
      rw [Bool.eq_false_iff]
      intro z
      rw [List.contains_iff_mem] at z
      obtain ⟨n, _, e⟩ := List.mem_map.mp z
      cases e
    unfold PySem.W.notFirst
    rw [this]
    simp
  rcases List.mem_cons.mp h with rfl | h
  · exact go (l := ["NoneType", "object"]) (by decide +kernel)
  rcases List.mem_cons.mp h with rfl | h
  · exact go (l := ["bool", "int", "object"]) (by decide +kernel)
  rcases List.mem_cons.mp h with rfl | h
  · exact go (l := ["int", "object"]) (by decide +kernel)
  rcases List.mem_cons.mp h with rfl | h
  · exact go (l := ["str", "object"]) (by decide +kernel)
  rcases List.mem_cons.mp h with rfl | h
  · exact go (l := ["list", "object"]) (by decide +kernel)
  rcases List.mem_cons.mp h with rfl | h
  · exact go (l := ["tuple", "object"]) (by decide +kernel)
  rcases List.mem_cons.mp h with rfl | h
  · exact go (l := ["dict", "object"]) (by decide +kernel)
  cases h
theorem notFirst_self (K : PySem.W.Frag) (C : Addr) : PySem.W.notFirst K C (.ref C) = true := by simp [PySem.W.notFirst]

structure EqCls (K : PySem.W.Frag) (C f : Addr) : Prop where
  he : PySem.W.findIn K (.ref C) "__eq__" = some (some (.ref f))
  hf : PySem.W.isFn K (.ref f) = true
  hne : PySem.W.findIn K (.ref C) "__ne__" = some (some (.builtin "object.__ne__"))
  ho : PySem.W.mroIn K C (.type "object") = some true
section
variable {prog : Program} {w : World} {A : Around} {E : Value → Shared → Prop} {s : Shared} {K : PySem.W.Frag} {x C f : Addr} {ox : Obj} {od : Option Obj} {b tb : Value}
/-- object.__ne__ of an instance with an own __eq__ -/
theorem ne_entry (hu : A.units < cLine) (X : K.In s.heap) (I : PySem.W.InstAt s.heap x ox C od) (ec : EqCls K C f) {Q : Fin → Shared → Prop}
    (hcall : wpAny (model prog w) A (call (.ref f) [.ref x, b]) (fun v s' => ∃ r, v = .bool r ∧ Q (.done (.ret (.bool (!r)))) s') E s) :
    wpAny (model prog w) A (Builtin.«object.__ne__» ⟨[.ref x, b], []⟩) Q E s := by
  have key : wpAny (model prog w) A (callSpecialIfBound? (.ref x) (Str.ofString "__eq__") [b]) (fun o s' => ∃ r, o = some (.bool r) ∧ Q (.done (.ret (.bool (!r)))) s') E s :=
    PySem.W.ifBound_K X I ec.he ec.hf (wpAny_mono hcall (fun v s' ⟨r, e, q⟩ => ⟨r, by rw [e], q⟩) fun _ _ e => e)
  unfold Builtin.«object.__ne__»
  refine wpAny_bind (wpAny_of_eq (a := ((Value.ref x : Value), [b])) (by first | rfl | (simp only [slotArgs]; rfl)) ?_)
  show wpAny _ _ (cRoomFor "comparison" [.ref x, b] >>= fun _ => callSpecialIfBound? (.ref x) (Str.ofString "__eq__") [b] >>= _) _ _ _
  refine wpAny_bind (wpAny_cRoomFor hu ?_)
  refine wpAny_bind (wpAny_mono key (fun o s' z => ?_) fun _ _ e => e)
  obtain ⟨r, rfl, q⟩ := z
  show wpAny _ _ (truthy (.bool r) >>= _) _ _ _
  exact wpAny_bind (wpAny_truthy_bool (wpAny_pure q))
theorem ne_bound {M : Model} {args : List Value} {Q : Option Value → Shared → Prop} (X : K.In s.heap) (I : PySem.W.InstAt s.heap x ox C od) (hs : PySem.W.findIn K (.ref C) "__ne__" = some (some (.builtin "object.__ne__")))
    (h : wpAny M A (call (.builtin "object.__ne__") (.ref x :: args)) (fun v => Q (some v)) E s) : wpAny M A (callSpecialIfBound? (.ref x) "__ne__" args) Q E s := by
  simp only [callSpecialIfBound?, bindSpecialIfBound?]
  refine wpAny_holding (wpAny_bind (wpAny_bind (wpAny_bind (I.type.here ((PySem.W.looks_findIn X hs).here ?_)))))
  refine wpAny_bind (wpAny_askSetting (wpAny_ite ?_))
  have last : wpAny M A (call (.builtin "object.__ne__") ([.ref x] ++ args) >>= fun v => pure (some v)) Q E s := wpAny_bind (wpAny_mono h (fun _ _ z => wpAny_pure z) fun _ _ z => z)
  have bd := PySem.F.cmp_object.ne.bind (.ref x)
  split
  · exact wpAny_bind (wpAny_of_eq bd (wpAny_pure (by exact last)))
  · exact wpAny_tryCatch (wpAny_bind (wpAny_of_eq bd (wpAny_pure (by exact last))))
theorem rc_ne (hu : A.units + 1 < cLine) (X : K.In s.heap) (I : PySem.W.InstAt s.heap x ox C od) (ec : EqCls K C f) (hb : PySem.W.Looks (model prog w) s.heap (typeOf b) tb) (hn : PySem.W.notFirst K C tb = true) {Q : Value → Shared → Prop}
    (hcall : wpAny (model prog w) A.in1 (call (.ref f) [.ref x, b]) (fun v s' => ∃ r, v = .bool r ∧ Q (.bool (!r)) s') E s) : wpAny (model prog w) A (richCompare .NotEq (.ref x) b) Q E s := by
  have one : wpAny (model prog w) A (tryCompare (.ref x) "__ne__" b) (fun r s' => ∃ k, r = some (.bool k) ∧ Q (.bool k) s') E s := by
    unfold tryCompare
    refine wpAny_bind (ne_bound X I ec.hne ?_)
    refine wpAny_call (codeAny_call_builtin PySem.F.cmp_object.ne.plain PySem.F.cmpEntry_ne (PySem.W.check_slot PySem.F.cmpKind_ne PySem.F.cmpSplit_ne (I.type.andThen (PySem.W.looks_mroIn X ec.ho)) (PySem.F.cmpArgs_ne _ _) ?_))
    refine ne_entry (A := A.in1) hu X I ec (wpAny_mono hcall (fun v s' z => ?_) fun _ _ e => e)
    obtain ⟨r, rfl, q⟩ := z
    exact ⟨r, rfl, wpAny_pure ⟨_, rfl, q⟩⟩
  unfold richCompare
  simp only [oneThing_ref]
  refine wpAny_holding (wpAny_bind (wpAny_cRoomFor (Nat.lt_of_succ_lt hu) ?_))
  refine wpAny_bind (I.type.here (wpAny_bind (hb.here ?_)))
  split
  · rename_i q
    have e : PySem.W.subIn K tb (.ref C) = some false := by
      unfold PySem.W.notFirst at hn
      rw [Bool.or_eq_true, beq_iff_eq, beq_iff_eq] at hn
      rcases hn with e | e
      · rw [e] at q
        exact absurd q (by simp)
      · exact e
    refine wpAny_bind ((PySem.W.looks_subIn X e).here ?_)
    simp only [Bool.false_eq_true, if_false]
    refine wpAny_bind (wpAny_mono one (fun r s' z => ?_) fun _ _ e => e)
    obtain ⟨k, rfl, hq⟩ := z
    exact wpAny_pure hq
  · refine wpAny_bind (wpAny_pure ?_)
    simp only [Bool.false_eq_true, if_false]
    refine wpAny_bind (wpAny_mono one (fun r s' z => ?_) fun _ _ e => e)
    obtain ⟨k, rfl, hq⟩ := z
    exact wpAny_pure hq
end
section
variable {X : Cx} {k : Nat} {C f : Addr} {fd : FuncData} {ps : List Str} {sp : Sp}
def rOwn (K : PySem.W.Frag) (C : Addr) (sp : Sp) (neg : Bool) : R2 := fun x y H Q => ∃ a dx fs tb, x = .ref a ∧ H a = some (.ins C dx fs) ∧ TyOf H y tb ∧ PySem.W.notFirst K C tb = true ∧
  sp [x, y] H (fun v H' => ∃ b, v = .bl b ∧ Q (.bl (if neg then !b else b)) H') E0
theorem run_at (F : FnOk X.prog X.w X.K X.mg X.base CX0 k f fd ps sp) (hb : Binds X.K fd ps []) {A : Around} (hr : Room k A) (hfr : A.frames = X.A.frames) {pins : List (Addr × Obj)} {σ : L2.St} {H : Hp} {s : Shared} {vs : List V} {us : List Value} {Q : VK} {E : Value → Shared → Prop}
    (I : Inv X pins σ H s) (r : Vals vs us) (h : sp vs H Q E0) : wpAny (model X.prog X.w) A (call (.ref f) us) (EP X pins σ Q) E s := by
  have hl : us.length = ps.length := by rw [← r.length]; exact F.len _ _ _ _ h
  have hb1 := hb s us I.kIn (by simpa using hl)
  rw [List.append_nil] at hb1
  have e0 : Env0 X.prog X.w X.K X.mg X.base A X.stack s H := by
    have e := I.env0
    exact ⟨by rw [hfr]; exact e.frames, e.mod, e.bs, e.bsz, e.funs, e.frf, e.hok, e.bare⟩
  refine wpAny_call (codeAny_mono (F.run A X.stack s H ⟨us, []⟩ us vs Q E0 hr e0 hb1 r h) ?_)
  intro r s' hq
  match r, hq with
  | .error e, hq => exact hq.elim
  | .ok (.ret u), hq => exact I.after hq
theorem op_ownEq (F : FnOk X.prog X.w X.K X.mg X.base CX0 k f fd ps sp) (hb : Binds X.K fd ps []) (ec : EqCls X.K C f) {j : Nat} (hr : Room j X.A) (hj : k ≤ j) : OpR X (compareOp .Eq) (rOwn X.K C sp false) := by
  intro pins s σ H x y v u Q I rx ry h
  obtain ⟨a, dx, fs, tb, rfl, ha, ht, hn, hsp⟩ := h
  cases rx
  obtain ⟨mA, O, _⟩ := ins_get I.hok ha
  obtain ⟨od, J, _⟩ := O.look
  obtain ⟨m, hF⟩ := I.fr
  show wpAny (model X.prog X.w) X.A (richCompare .Eq _ u) (EP X pins σ Q) X.xe s
  refine PySem.W.cmp_K (op := .Eq) hr.units0 hF I.ok.mod.kin J (ht.looks I ry) hn ec.he ec.hf ?_
  refine wpAny_mono (run_at F hb (hr.mono hj) rfl (vs := [.ref a, y]) I (.cons rfl (.cons ry .nil)) hsp) (fun v s' z => ?_) fun _ _ e => e
  obtain ⟨v', H', I', rv, b, rfl, q⟩ := z
  cases rv
  exact ⟨.bl b, H', I', rfl, q⟩
theorem op_ownNe (F : FnOk X.prog X.w X.K X.mg X.base CX0 k f fd ps sp) (hb : Binds X.K fd ps []) (ec : EqCls X.K C f) {j : Nat} (hr : Room j X.A) (hj : k + 1 ≤ j) : OpR X (compareOp .NotEq) (rOwn X.K C sp true) := by
  intro pins s σ H x y v u Q I rx ry h
  obtain ⟨a, dx, fs, tb, rfl, ha, ht, hn, hsp⟩ := h
  cases rx
  obtain ⟨mA, O, _⟩ := ins_get I.hok ha
  obtain ⟨od, J, _⟩ := O.look
  show wpAny (model X.prog X.w) X.A (richCompare .NotEq _ u) (EP X pins σ Q) X.xe s
  refine rc_ne (by have := hr.un; omega) I.kIn J ec (ht.looks I ry) hn ?_
  refine wpAny_mono (run_at F hb (hr.mono hj).in1 rfl (vs := [.ref a, y]) I (.cons rfl (.cons ry .nil)) hsp) (fun v s' z => ?_) fun _ _ e => e
  obtain ⟨v', H', I', rv, b, rfl, q⟩ := z
  cases rv
  exact ⟨b, rfl, .bl (!b), H', I', rfl, q⟩
end
end Kq

namespace Kq
open PySem PySem.Spec PyProof.Rows L2

/-! ## operators, whatever the values are -/
section
variable {X : Cx}
/-- a text times an int -/
def rMulS : R2 := fun x y H Q => ∃ (z : Str) (n : Nat), x = .str z ∧ y = .int (n : Int) ∧ z.length * n ≤ 1000000 ∧ n ≤ 1000000 ∧ Q (.str ⟨(List.replicate n z.cps.toList).flatten.toArray⟩) H
theorem foldl_app (z : Array Nat) : ∀ (n : Nat) (a : Array Nat), (List.replicate n z).foldl (fun x1 x2 => x1 ++ x2) a = a ++ (List.replicate n z.toList).flatten.toArray
  | 0, a => by simp
  | n + 1, a => by
    rw [List.replicate_succ, List.replicate_succ, List.foldl_cons, foldl_app z n, List.flatten_cons, Array.append_assoc]
    congr 1
    apply Array.ext'
    simp
theorem op_mulS : OpR X (binaryOp .Mult) rMulS := by
  intro pins s σ H x y v u Q I rx ry h
  obtain ⟨z, n, rfl, rfl, hz, hn, q⟩ := h
  obtain ⟨t, rfl⟩ := rx
  obtain ⟨t', rfl⟩ := ry
  have sz : (sizeLine : Nat) = 16777216 := sizeLine_eq
  have hr : (decide ((n : Int) < -(2 ^ 63 : Int)) || decide ((n : Int) ≥ 2 ^ 63)) = false := by
    rw [decide_eq_false (by omega), decide_eq_false (by omega)]
    rfl
  refine PySem.P.mul_str hr (fun h1 h2 => ?_) (fun h1 h2 => ?_) ?_
  · intro hc
    have h3 : (1 : Int) ≤ (n : Int) := by omega
    have h4 : (z.length : Int) * n ≤ 1000000 := by
      have := Int.ofNat_le.mpr hz
      rw [Int.natCast_mul] at this
      exact this
    have h5 : (2 ^ 63 - 1) / (n : Int) * n + n > 2 ^ 63 - 1 := by
      have := Int.lt_ediv_add_one_mul_self (2 ^ 63 - 1 : Int) (show (0 : Int) < (n : Int) by omega)
      rw [Int.add_mul, Int.one_mul] at this
      exact this
    have h6 : ((2 ^ 63 - 1) / (n : Int)) * n ≤ (z.length : Int) * n := Int.mul_le_mul_of_nonneg_right (by omega) (by omega)
    omega
  · unfold Builtin.Str.tooLong
    simp only [Int.toNat_natCast]
    first
      | (rw [decide_eq_false_iff_not]; omega)
      | (simp; omega)
  · by_cases h1 : (n : Int) < 1
    · rw [if_pos h1]
      have : n = 0 := by omega
      subst this
      refine ⟨by decide, ?_⟩
      exact ⟨.str Str.empty, H, I.tok _, ⟨_, rfl⟩, q⟩
    · rw [if_neg h1]
      split
      · rename_i h2
        rw [Bool.or_eq_true] at h2
        have e : (⟨(List.replicate n z.cps.toList).flatten.toArray⟩ : Str) = z := by
          rcases h2 with h2 | h2
          · have : n = 1 := by have := eq_of_beq h2; omega
            subst this
            simp
          · have : z.cps.toList = [] := by
              have h3 : z.length = 0 := eq_of_beq h2
              rw [← List.length_eq_zero_iff, Array.length_toList]
              exact h3
            have e2 : (List.replicate n z.cps.toList).flatten = [] := by
              rw [this]
              induction n with
              | zero => rfl
              | succ n ih => simp
            rw [e2]
            have : z.cps = #[] := by
              apply Array.ext'
              rw [this]
            cases z
            simp_all
        refine ⟨.str z, H, I, ⟨t, rfl⟩, ?_⟩
        rw [e] at q
        exact q
      · have hlen : (⟨(List.replicate n z.cps.toList).flatten.toArray⟩ : Str).length = z.length * n := by
          show ((List.replicate n z.cps.toList).flatten.toArray).size = _
          rw [List.size_toArray, List.length_flatten, List.map_replicate, List.sum_replicate_nat, Array.length_toList, Nat.mul_comm]
          rfl
        have e : (⟨(List.replicate (n : Int).toNat z.cps).foldl (fun x1 x2 => x1 ++ x2) #[]⟩ : Str) = ⟨(List.replicate n z.cps.toList).flatten.toArray⟩ := by
          rw [foldl_app]
          simp
        rw [e]
        exact ⟨by rw [hlen]; omega, .str _, H, I.tok _, ⟨_, rfl⟩, q⟩
section
variable {K : PySem.W.Frag}
theorem opAddP (hK : X.K = K := by rfl) : OpR X (binaryOp .Add) (fun x y H Q => rI0 (fun i j => .int (i + j)) x y H Q ∨ (∃ i j, x = .str i ∧ y = .str j ∧ i.length + j.length ≤ sizeLine ∧ Q (.str (i ++ j)) H) ∨ rCat x y H Q ∨ rCatA K x y H Q) := by
  subst hK
  exact op_add.or (op_add_str.or (op_cat.or op_catA))
theorem opMulP : OpR X (binaryOp .Mult) (fun x y H Q => rI CMul (fun i j => .int (i * j)) x y H Q ∨ rMulS x y H Q ∨ rRep x y H Q) := op_mul.or (op_mulS.or op_rep)
theorem opSubP : OpR X (binaryOp .Sub) (rI0 fun i j => .int (i - j)) := op_sub
theorem opNeg : UnR X (unaryOp .USub) (rU fun i => .int (-i)) := un_neg
theorem opEqP {T : Tb} (hT : flatT T = true) (hu : X.A.units + 64 < cLine) : OpR X (compareOp .Eq) (fun x y H Q => rEq x y H Q ∨ rEqQ T x y H Q) := op_eq.or (op_eqQ hT hu)
theorem opNeP (hu : X.A.units + 64 < cLine) (hK : X.K = K := by rfl) : OpR X (compareOp .NotEq) (fun x y H Q => rNe x y H Q ∨ rNeD K x y H Q) := by
  subst hK
  exact op_ne.or (op_neD hu)
theorem opLtP : OpR X (compareOp .Lt) (fun x y H Q => rI0 (fun i j => .bl (decide (i < j))) x y H Q ∨ (∃ i j, x = .str i ∧ y = .str j ∧ Q (.bl (decide (i.cps.toList < j.cps.toList))) H)) := op_lt.or op_lt_str
theorem opLeP : OpR X (compareOp .LtE) (fun x y H Q => rI0 (fun i j => .bl (decide (i ≤ j))) x y H Q ∨ (∃ i j, x = .str i ∧ y = .str j ∧ Q (.bl (!decide (j.cps.toList < i.cps.toList))) H)) := op_le.or op_le_str
theorem opGtP : OpR X (compareOp .Gt) (fun x y H Q => rI0 (fun i j => .bl (decide (j < i))) x y H Q ∨ (∃ i j, x = .str i ∧ y = .str j ∧ Q (.bl (decide (j.cps.toList < i.cps.toList))) H)) := op_gt.or op_gt_str
theorem opGeP : OpR X (compareOp .GtE) (fun x y H Q => rI0 (fun i j => .bl (decide (j ≤ i))) x y H Q ∨ (∃ i j, x = .str i ∧ y = .str j ∧ Q (.bl (!decide (i.cps.toList < j.cps.toList))) H)) := op_ge.or op_ge_str
theorem opInP (hK : X.K = K := by rfl) : OpR X (compareOp .In) (fun x y H Q => rIn K false x y H Q ∨ (∃ (c : Nat) (z : Str), x = .str ⟨#[c]⟩ ∧ y = .str z ∧ Q (.bl (decide (c ∈ z.cps.toList))) H)) := by
  subst hK
  exact op_in_seq.or op_in_sign
theorem opNinP (hK : X.K = K := by rfl) : OpR X (compareOp .NotIn) (fun x y H Q => rIn K true x y H Q ∨ (∃ (c : Nat) (z : Str), x = .str ⟨#[c]⟩ ∧ y = .str z ∧ Q (.bl (!decide (c ∈ z.cps.toList))) H)) := by
  subst hK
  exact op_notIn_seq.or op_notIn_sign
theorem opIsP : OpR X (compareOp .Is) (fun x y H Q => y = .non ∧ Q (.bl (decide (x = .non))) H) := op_isN
theorem opIsntP : OpR X (compareOp .IsNot) (fun x y H Q => y = .non ∧ Q (.bl (!decide (x = .non))) H) := op_notN
theorem ixP (hK : X.K = K := by rfl) : IxR X (rIx K) := by
  subst hK
  exact ix_seq
theorem slP (hK : X.K = K := by rfl) : SlR X (fun x lo hi H Q => rSlL K x lo hi H Q ∨ rSlA K x lo hi H Q ∨ rSlS x lo hi H Q) := by
  subst hK
  exact sl_list.or (sl_tupA.or sl_str)
theorem callLenP (hK : X.K = K := by rfl) : CallR X (.builtin "len") (fun xs H Q => (∃ p ys, xs = [.ref p] ∧ (SqL K H p ys ∨ SqT K H p ys) ∧ Q (.int ys.length) H) ∨ (∃ z, xs = [.str z] ∧ z.length ≤ sizeLine ∧ Q (.int z.length) H)) := by
  subst hK
  exact call_len_seq.or call_len_str
theorem callListP (hK : X.K = K := by rfl) : CallR X (.type "list") (fun xs H Q => ∃ p ys, xs = [.ref p] ∧ (SqL K H p ys ∨ SqT K H p ys) ∧ ∀ l, H l = none → Q (.ref l) (upd H l (.lst ys))) := by
  subst hK
  exact call_list_of
theorem callTupleP (hK : X.K = K := by rfl) : CallR X (.type "tuple") (fun xs H Q => ∃ p ys, xs = [.ref p] ∧ ((SqL K H p ys ∧ ∀ l, H l = none → Q (.ref l) (upd H l (.tup ys))) ∨ (SqT K H p ys ∧ Q (.ref p) H))) := by
  subst hK
  exact call_tuple_of
theorem pe_fldP {e : Expr} {f : Str} {pos : Pos} {ta : TE} (he : PE X e ta) (hb : attributeBase e f X.env (eval e X.env) = eval e X.env) (hK : X.K = K := by rfl) : PE X (.Attribute e f pos) (tFld K ta f) := by
  subst hK
  exact pe_fld he hb
theorem pi_listP {tg l : Expr} {tl : TE} (hl : PE X l tl) (hK : X.K = K := by rfl) : PI X tg l (iList K tl) := by
  subst hK
  exact pi_list hl
theorem pi_tupP {tg l : Expr} {tl : TE} (hl : PE X l tl) (hK : X.K = K := by rfl) : PI X tg l (iTup K tl) := by
  subst hK
  exact pi_tup hl
theorem pe_revP {e : Expr} {te : TE} {k : Nat} {p1 p2 p3 pos : Pos} (he : PE X e te) (hK : X.K = K := by rfl) : PE X (.Subscript e (.Slice none none (some (.UnaryOp .USub (.Constant (.int 1) k p1) p2)) p3) pos) (tRevL K te) := by
  subst hK
  exact pe_revL he
end
theorem callStrP : CallR X (.type "str") (fun xs H Q => (∃ i, xs = [.int i] ∧ i.natAbs.log2 < 1920 ∧ Q (.str (toString i)) H) ∨ (∃ a, xs = [.str a] ∧ Q (.str a) H)) := call_str_int.or SkE.call_str_str
end
end Kq

namespace Kq
open PySem PySem.Spec PyProof.Rows L2

/-! ## the pen: what draws -/
/-- all that stands but the pen -/
def Im (H : Hp) (p : Addr) : Hp := fun b => if b = p then none else H b
theorem Im_of {H : Hp} {p a : Addr} {o : HO} (e : H a = some o) (h : a ≠ p) : Im H p a = some o := by unfold Im; rw [if_neg h]; exact e
theorem Im_get {H : Hp} {p a : Addr} {o : HO} (h : Im H p a = some o) : H a = some o ∧ a ≠ p := by
  unfold Im at h
  split at h
  · cases h
  · rename_i z
    exact ⟨h, z⟩
theorem Im_sub {H : Hp} {p : Addr} : Same (Im H p) H := fun _ _ h => (Im_get h).1
theorem Im_none {H : Hp} {p a : Addr} (h : H a = none) : Im H p a = none := by
  unfold Im
  split
  · rfl
  · exact h
theorem Same.upd {H : Hp} {a : Addr} {o : HO} (h : H a = none) : Same H (L2.upd H a o) := fun b u e => by
  rw [upd_ne (ne_of_none e h)]
  exact e
theorem Same.updI {H : Hp} {a p : Addr} {o : HO} (h : H a = none) : Same (Im H p) (Im (L2.upd H a o) p) := fun b u e => by
  obtain ⟨e1, e2⟩ := Im_get e
  exact Im_of (by rw [upd_ne (ne_of_none e1 h)]; exact e1) e2
theorem Same.updP {H : Hp} {p : Addr} {o : HO} : Same (Im H p) (Im (L2.upd H p o) p) := fun b u e => by
  obtain ⟨e1, e2⟩ := Im_get e
  exact Im_of (by rw [upd_ne e2]; exact e1) e2
theorem sameIm {H H' : Hp} {p : Addr} (h : Same H H') : Same (Im H p) (Im H' p) := fun b u e => by
  obtain ⟨e1, e2⟩ := Im_get e
  exact Im_of (h _ _ e1) e2
theorem Im_upd {H : Hp} {a p : Addr} {o : HO} (h : a ≠ p) : Im (L2.upd H a o) p a = some o := Im_of upd_same h

def PenAt (H : Hp) (p c : Addr) (n : Nat) : Prop := ∃ (ns : List Int) (k r : Int), H p = some (.lst [.ref c, .int k, .int r]) ∧ H c = some (.lst (ns.map V.int)) ∧ ns.length ≤ 63 ∧ 0 ≤ k ∧ k ≤ n
theorem PenAt.some {H : Hp} {p c : Addr} {n : Nat} (h : PenAt H p c n) : H p ≠ none := by
  obtain ⟨ns, k, r, hp, _⟩ := h
  rw [hp]
  simp
theorem PenAt.ne {H : Hp} {p c : Addr} {n : Nat} (h : PenAt H p c n) {a : Addr} (ha : H a = none) : a ≠ p := by
  rintro rfl
  exact h.some ha
theorem PenAt.neC {H : Hp} {p c : Addr} {n : Nat} (h : PenAt H p c n) {a : Addr} (ha : H a = none) : a ≠ c := by
  rintro rfl
  obtain ⟨ns, k, r, hp, hc, _⟩ := h
  rw [ha] at hc
  cases hc
theorem PenAt.mono {H : Hp} {p c : Addr} {n m : Nat} (h : PenAt H p c n) (hm : n ≤ m) : PenAt H p c m := by
  obtain ⟨ns, k, r, hp, hc, h1, h2, h3⟩ := h
  exact ⟨ns, k, r, hp, hc, h1, h2, by omega⟩
theorem PenAt.same {H H' : Hp} {p c : Addr} {n : Nat} (h : PenAt H p c n) (s : Same H H') : PenAt H' p c n := by
  obtain ⟨ns, k, r, hp, hc, h1, h2, h3⟩ := h
  exact ⟨ns, k, r, s _ _ hp, s _ _ hc, h1, h2, h3⟩
theorem PenAt.upd {H : Hp} {p c a : Addr} {n : Nat} {o : HO} (h : PenAt H p c n) (ha : H a = none) : PenAt (L2.upd H a o) p c n := h.same (Same.upd ha)
/-- another object is changed -/
theorem PenAt.put {H : Hp} {p c a : Addr} {n : Nat} {o : HO} (h : PenAt H p c n) (h1 : a ≠ p) (h2 : a ≠ c) : PenAt (L2.upd H a o) p c n := by
  obtain ⟨ns, k, r, hp, hc, h3⟩ := h
  exact ⟨ns, k, r, by rw [upd_ne h1.symm]; exact hp, by rw [upd_ne h2.symm]; exact hc, h3⟩
/-- an object that was not there at the start is changed -/
theorem samePut {H H' : Hp} {p a : Addr} {o : HO} (s : Same (Im H p) (Im H' p)) (h : H a = none) : Same (Im H p) (Im (L2.upd H' a o) p) := fun b u e => by
  obtain ⟨e1, e2⟩ := Im_get (s _ _ e)
  refine Im_of ?_ e2
  rw [upd_ne]
  · exact e1
  · rintro rfl
    rw [(Im_get e).1] at h
    cases h
/-- what draws at most m times -/
def PenSp (m : Nat) (pre : List V → Hp → Prop) (post : List V → V → Hp → Prop) : Sp := fun vs H Q _ => ∃ (p c : Addr) (n : Nat) (rest : List V), vs = .ref p :: rest ∧ PenAt H p c n ∧ n + m ≤ 4194304 ∧ pre rest (Im H p) ∧
  ∀ v H', PenAt H' p c (n + m) → Same (Im H p) (Im H' p) → post rest v (Im H' p) → Q v H'

def spPen (K : PySem.W.Frag) : Sp := fun vs H Q _ => ∃ (a : Addr) (ns : List Int), vs = [.ref a] ∧ SqL K H a (ns.map V.int) ∧ ns.length ≤ 63 ∧ ∀ p c H', H p = none → H c = none → PenAt H' p c 0 → Same H H' → Q (.ref p) H'
def preDraw : List V → Hp → Prop := fun vs _ => ∃ m : Int, vs = [.int m] ∧ 0 < m ∧ m < 1073741824
def postDraw : List V → V → Hp → Prop := fun vs v _ => ∃ m r : Int, vs = [.int m] ∧ v = .int r ∧ 0 ≤ r ∧ r < m
def spDraw : Sp := PenSp 1 preDraw postDraw
/-- something indexed: a list, a tuple, a text; not empty -/
def Some1 (h : Hp) (x : V) : Prop := (∃ a xs, x = .ref a ∧ (h a = some (.lst xs) ∨ h a = some (.tup xs)) ∧ xs ≠ [] ∧ xs.length ≤ 100000) ∨ (∃ s : Str, x = .str s ∧ 0 < s.length ∧ s.length ≤ 100000)
def In1 (h : Hp) (x v : V) : Prop := (∃ a xs, x = .ref a ∧ (h a = some (.lst xs) ∨ h a = some (.tup xs)) ∧ v ∈ xs) ∨ (∃ (s : Str) (c : Nat), x = .str s ∧ c ∈ s.cps.toList ∧ v = .str ⟨#[c]⟩)
def prePick : List V → Hp → Prop := fun vs h => ∃ x, vs = [x] ∧ Some1 h x
def postPick : List V → V → Hp → Prop := fun vs v h => ∃ x, vs = [x] ∧ In1 h x v
def spPick : Sp := PenSp 1 prePick postPick
/-- a word -/
def IsW (s : Str) : Prop := 1 ≤ s.length ∧ s.length ≤ 8 ∧ ∀ c ∈ s.cps.toList, 97 ≤ c ∧ c ≤ 122
def preWord : List V → Hp → Prop := fun vs _ => vs = []
def postWord : List V → V → Hp → Prop := fun _ v _ => ∃ s, v = .str s ∧ IsW s
def spWord : Sp := PenSp 10 preWord postWord
def preWords : List V → Hp → Prop := fun vs _ => ∃ m : Int, vs = [.int m] ∧ 0 ≤ m ∧ m ≤ 52
def postWords : List V → V → Hp → Prop := fun vs v h => ∃ (m : Int) (a : Addr) (ws : List Str), vs = [.int m] ∧ v = .ref a ∧ h a = some (.lst (ws.map V.str)) ∧ (ws.length : Int) = m ∧ ws.Nodup ∧ ∀ s ∈ ws, IsW s
def spWords : Sp := PenSp 520 preWords postWords
/-! ### arithmetic of the draw -/
theorem mix1 {k : Int} (h0 : 0 ≤ k) (h : k ≤ 4194304) (a b c : Int) (ha : 0 ≤ a) (ha2 : a < 4294967296) (hb : 0 ≤ b) (hb2 : b ≤ 100000) (hc : 0 ≤ c) (hc2 : c ≤ 100000) : (a + b * k + c).natAbs < 2 ^ 64 := by
  have h1 : 0 ≤ b * k := Int.mul_nonneg hb h0
  have h2 : b * k ≤ 100000 * 4194304 := Int.mul_le_mul hb2 h h0 (by omega)
  omega
theorem mix2 {k : Int} (h0 : 0 ≤ k) (h : k ≤ 4194304) (a b c d e : Int) (ha : 0 ≤ a) (ha2 : a < 4294967296) (hb : 0 ≤ b) (hb2 : b ≤ 100000) (hc : 0 ≤ c) (hc2 : c ≤ 100000) (hd : 0 ≤ d) (hd2 : d ≤ 100000) (he : 0 ≤ e) (he2 : e ≤ 100000) :
    (a * (2 * k + b) + c * k * k + d).natAbs < 2 ^ 64 := by
  have h1 : 0 ≤ 2 * k + b := by omega
  have h2 : 2 * k + b ≤ 8488608 := by omega
  have h3 : 0 ≤ a * (2 * k + b) := Int.mul_nonneg ha h1
  have h4 : a * (2 * k + b) ≤ 4294967296 * 8488608 := Int.mul_le_mul (by omega) h2 h1 (by omega)
  have h5 : 0 ≤ c * k := Int.mul_nonneg hc h0
  have h6 : c * k ≤ 100000 * 4194304 := Int.mul_le_mul hc2 h h0 (by omega)
  have h7 : 0 ≤ c * k * k := Int.mul_nonneg h5 h0
  have h8 : c * k * k ≤ 100000 * 4194304 * 4194304 := Int.mul_le_mul h6 h h0 (by omega)
  omega
theorem cmul_l {a b : Int} (h1 : -(2 ^ 64) < a) (h2 : a < 2 ^ 64) : CMul a b := Or.inl ⟨h1, h2⟩
theorem cmul_r {a b : Int} (h1 : -(2 ^ 64) < b) (h2 : b < 2 ^ 64) : CMul a b := Or.inr ⟨h1, h2⟩
/-- lists of ints, by the layer's own data -/
theorem dp_ints {K : PySem.W.Frag} {H : Hp} : ∀ (ns : List Int), DpAll K H (ns.map V.int) (ns.map PyData.int)
  | [] => .nil
  | n :: ns => .cons (.int n) (dp_ints ns)
theorem lay_ints : ∀ (ns : List Int), PyData.canLayAll0 (ns.map PyData.int) = true
  | [] => rfl
  | n :: ns => by
    rw [List.map_cons]
    unfold PyData.canLayAll0
    rw [lay_ints ns]
    unfold PyData.canLay0
    rfl
theorem depth_ints : ∀ (ns : List Int), PyData.depthAll (ns.map PyData.int) = 0
  | [] => rfl
  | n :: ns => by
    rw [List.map_cons]
    unfold PyData.depthAll PyData.depth
    rw [depth_ints ns]
    rfl
theorem shaped_ints (ns : List Int) : SeqAt.shaped (.list (ns.map PyData.int)) = true := by
  unfold SeqAt.shaped PyData.canLay0 PyData.depth
  rw [lay_ints, depth_ints]
  rfl
theorem eqv_nil (ns : List Int) : PyData.eqv (.list (ns.map PyData.int)) (.list []) = ns.isEmpty := by
  cases ns with
  | nil => simp [PyData.eqv, PyData.eqvAll]
  | cons n ns => simp [PyData.eqv, PyData.eqvAll]
theorem at_mod {ns : List Int} (h : ns ≠ []) (k : Int) : ∃ z : Int, atI (ns.map V.int) (k % (ns.length : Int)) = some (.int z) := by
  have hl : 0 < ns.length := List.length_pos_iff.mpr h
  have h1 : 0 ≤ k % (ns.length : Int) := Int.emod_nonneg _ (by omega)
  have h2 : k % (ns.length : Int) < ns.length := Int.emod_lt_of_pos _ (by omega)
  obtain ⟨j, hj⟩ := Int.eq_ofNat_of_zero_le h1
  have hj2 : j < ns.length := by omega
  refine ⟨ns[j], ?_⟩
  rw [hj]
  exact atI_nat (by rw [List.getElem?_map, List.getElem?_eq_getElem hj2]; rfl)
theorem len_map_int (ns : List Int) : (ns.map V.int).length = ns.length := List.length_map _
end Kq
namespace Kq
open PySem PySem.Spec PyProof.Rows L2
theorem cut_hi (xs : List V) (k : Nat) : cutV xs none (some (k : Int)) = xs.take k := by
  unfold cutV
  rw [HT.sIx_none, HT.sIx_nat, List.drop_zero, Nat.sub_zero, List.take_eq_take_iff]
  omega
theorem cut_lo (xs : List V) (k : Nat) : cutV xs (some (k : Int)) none = xs.drop k := by
  unfold cutV
  rw [HT.sIx_none, HT.sIx_nat]
  by_cases h : k ≤ xs.length
  · rw [Nat.min_eq_left h, List.take_of_length_le]
    exact Nat.le_of_eq (List.length_drop)
  · rw [List.drop_of_length_le (by omega : xs.length ≤ k), Nat.min_eq_right (by omega), List.drop_length]
    simp
/-- behind a store into the pen -/
theorem pen_set {H : Hp} {p c : Addr} {ns : List Int} {k r : Int} {n : Nat} (hc : H c = some (.lst (ns.map V.int))) (hcp : c ≠ p) (hl : ns.length ≤ 63) (h0 : 0 ≤ k) (hk : k ≤ n) : PenAt (upd H p (.lst [.ref c, .int k, .int r])) p c n :=
  ⟨ns, k, r, upd_same, by rw [upd_ne hcp]; exact hc, hl, h0, hk⟩
theorem pen_ne {H : Hp} {p c : Addr} {ns : List Int} {k r : Int} (hp : H p = some (.lst [.ref c, .int k, .int r])) (hc : H c = some (.lst (ns.map V.int))) : c ≠ p := by
  rintro rfl
  rw [hp] at hc
  cases ns with
  | nil => cases hc
  | cons a b => cases hc
end Kq
namespace Kq
open PySem PySem.Spec PyProof.Rows L2
theorem str_ext {a b : Str} (h : a.cps.toList = b.cps.toList) : a = b := by
  obtain ⟨x⟩ := a
  obtain ⟨y⟩ := b
  congr 1
  exact Array.ext' h
theorem str_len (a : Str) : a.length = a.cps.toList.length := by rw [Array.length_toList]; rfl
theorem str_app (a b : Str) : (a ++ b).cps.toList = a.cps.toList ++ b.cps.toList := by
  show (a.cps ++ b.cps).toList = _
  rw [Array.toList_append]
theorem empty_cps : (Str.ofString "").cps.toList = [] := by decide +kernel
theorem join_sep (sep : Str) (h : sep.cps.toList = []) : ∀ ws : List Str, (Str.join sep ws).cps.toList = (ws.map (·.cps.toList)).flatten
  | [] => rfl
  | [x] => by
    show x.cps.toList = _
    simp
  | x :: y :: r => by
    show (x ++ sep ++ Str.join sep (y :: r)).cps.toList = _
    rw [str_app, str_app, join_sep sep h (y :: r), h]
    simp
theorem txt_join (sep : Str) (ws : List Str) : Txt.join sep ws = Str.join sep ws := StrLaws.glued_eq_join sep ws
theorem join0 (ws : List Str) : (Txt.join (Str.ofString "") ws).cps.toList = (ws.map (·.cps.toList)).flatten := by
  rw [txt_join, join_sep _ empty_cps]
theorem join_signs (cs : List Nat) : Txt.join (Str.ofString "") (cs.map fun c => (⟨#[c]⟩ : Str)) = ⟨cs.toArray⟩ := by
  apply str_ext
  rw [join0, List.map_map]
  induction cs with
  | nil => rfl
  | cons c cs ih =>
    rw [List.map_cons, List.flatten_cons, ih]
    rfl
theorem In1.lst {h : Hp} {a : Addr} {xs : List V} {v : V} (hi : In1 h (.ref a) v) (ha : h a = some (.lst xs)) : v ∈ xs := by
  rcases hi with ⟨b, ys, e, hb, hv⟩ | ⟨s, c, e, _⟩
  · cases e
    rcases hb with hb | hb
    · rw [ha] at hb
      cases hb
      exact hv
    · rw [ha] at hb
      cases hb
  · cases e
theorem In1.tup {h : Hp} {a : Addr} {xs : List V} {v : V} (hi : In1 h (.ref a) v) (ha : h a = some (.tup xs)) : v ∈ xs := by
  rcases hi with ⟨b, ys, e, hb, hv⟩ | ⟨s, c, e, _⟩
  · cases e
    rcases hb with hb | hb
    · rw [ha] at hb
      cases hb
    · rw [ha] at hb
      cases hb
      exact hv
  · cases e
theorem In1.str {h : Hp} {s : Str} {v : V} (hi : In1 h (.str s) v) : ∃ c, c ∈ s.cps.toList ∧ v = .str ⟨#[c]⟩ := by
  rcases hi with ⟨b, ys, e, hb, hv⟩ | ⟨s', c, e, hc, hv⟩
  · cases e
  · cases e
    exact ⟨c, hc, hv⟩
/-- a text of letters, not empty -/
def Lets (s : Str) : Prop := 0 < s.length ∧ s.length ≤ 100000 ∧ ∀ c ∈ s.cps.toList, 97 ≤ c ∧ c ≤ 122
def letsB (s : Str) : Bool := decide (0 < s.length) && decide (s.length ≤ 100000) && s.cps.toList.all fun c => decide (97 ≤ c) && decide (c ≤ 122)
theorem lets_of {s : Str} (h : letsB s = true) : Lets s := by
  unfold letsB at h
  simp only [Bool.and_eq_true, decide_eq_true_eq, List.all_eq_true] at h
  exact ⟨h.1.1, h.1.2, h.2⟩
theorem isW_signs {cs : List Nat} (h1 : 1 ≤ cs.length) (h2 : cs.length ≤ 8) (h : ∀ c ∈ cs, 97 ≤ c ∧ c ≤ 122) : IsW ⟨cs.toArray⟩ := ⟨h1, h2, h⟩
theorem pen_ref {H : Hp} {p c : Addr} {n : Nat} (h : PenAt H p c n) {a : Addr} {o : HO} (ha : Im H p a = some o) : a ≠ p := (Im_get ha).2
/-- carried by what a pen's def leaves -/
theorem same_at {H H' : Hp} {p a : Addr} {o : HO} (s : Same (Im H p) (Im H' p)) (h : H a = some o) (hne : a ≠ p) : H' a = some o := (Im_get (s _ _ (Im_of h hne))).1
end Kq
namespace Kq
open PySem PySem.Spec PyProof.Rows L2
/-- a comprehension without a test -/
theorem tYes_go {σ : L2.St} {H : Hp} {A B : Hp → Prop} (h : A H) : tYes σ H (fun b H3 => if b = true then A H3 else B H3) := by
  show (if true = true then A H else B H)
  rw [if_pos rfl]
  exact h
end Kq

namespace Kq
open PySem PySem.Spec PyProof.Rows L2
/-! ## small helps for bodies -/
theorem sput {H H' : Hp} {a : Addr} {o : HO} (s : Same H H') (h : H a = none) : Same H (L2.upd H' a o) := fun b u e => by
  rw [upd_ne (ne_of_none e h)]
  exact s _ _ e
theorem inV_strs (x : Str) (ws : List Str) : inV (.str x) (ws.map V.str) = decide (x ∈ ws) := by
  unfold inV
  rw [List.any_map]
  induction ws with
  | nil => rfl
  | cons w ws ih =>
    rw [List.any_cons, ih]
    show (w == x || _) = _
    rw [Bool.eq_iff_iff, Bool.or_eq_true, beq_iff_eq, decide_eq_true_eq, decide_eq_true_eq, List.mem_cons]
    exact ⟨fun h => h.imp Eq.symm id, fun h => h.imp Eq.symm id⟩
theorem flat_strs (ws : List Str) : (ws.map V.str).all flatV = true := by
  rw [List.all_map, List.all_eq_true]
  exact fun _ _ => rfl
theorem flat_ints (ws : List Int) : (ws.map V.int).all flatV = true := by
  rw [List.all_map, List.all_eq_true]
  exact fun _ _ => rfl
theorem nodup_le : ∀ {A B : List Str}, A.Nodup → (∀ x ∈ A, x ∈ B) → A.length ≤ B.length
  | [], _, _, _ => Nat.zero_le _
  | a :: A, B, hn, hs => by
    have hn' := List.nodup_cons.mp hn
    have h1 : a ∈ B := hs a (List.mem_cons_self ..)
    have h2 := nodup_le (B := B.erase a) hn'.2 fun x hx => (List.mem_erase_of_ne (by rintro rfl; exact hn'.1 hx)).mpr (hs x (List.mem_cons_of_mem _ hx))
    rw [List.length_erase_of_mem h1] at h2
    have := List.length_pos_of_mem h1
    rw [List.length_cons]
    omega
theorem spare_left {A ws : List Str} (hA : A.Nodup) (h : ws.length < A.length) : A.filter (fun x => !decide (x ∈ ws)) ≠ [] := by
  intro e
  have : A.length ≤ ws.length := nodup_le hA fun x hx => by
    rw [List.filter_eq_nil_iff] at e
    have := e x hx
    simpa using this
  omega
theorem at0 {α : Type} {xs : List α} (h : xs ≠ []) : ∃ x, xs[0]? = some x ∧ x ∈ xs := by
  cases xs with
  | nil => exact absurd rfl h
  | cons a b => exact ⟨a, rfl, List.mem_cons_self ..⟩
/-- the text's signs -/
def signsOf (z : Str) : List Str := z.cps.toList.map fun c => ⟨#[c]⟩
theorem signsOf_len (z : Str) : (signsOf z).length = z.cps.size := by
  unfold signsOf
  rw [List.length_map, Array.length_toList]
theorem signsOf_get {z : Str} {i : Nat} {c : Nat} (h : z.cps[i]? = some c) : (signsOf z)[i]? = some ⟨#[c]⟩ := by
  unfold signsOf
  rw [List.getElem?_map, Array.getElem?_toList, h]
  rfl
theorem take_succ' {α : Type} {xs : List α} {i : Nat} {x : α} (h : xs[i]? = some x) : xs.take (i + 1) = xs.take i ++ [x] := by
  rw [List.take_add_one, h]
  rfl
theorem take_all {α : Type} (xs : List α) : xs.take xs.length = xs := List.take_length
theorem get_map_str {ws : List Str} {i : Nat} {v : V} (h : (ws.map V.str)[i]? = some v) : ∃ w, ws[i]? = some w ∧ v = .str w := by
  rw [List.getElem?_map] at h
  cases e : ws[i]? with
  | none => rw [e] at h; cases h
  | some w => rw [e] at h; cases h; exact ⟨w, rfl, rfl⟩
/-- a whole alphabet of single signs, and the same behind q -/
def spareOf (z q : Str) : List Str := signsOf z ++ (signsOf z).map fun s => q ++ s
def isWB (s : Str) : Bool := decide (1 ≤ s.length) && decide (s.length ≤ 8) && s.cps.toList.all fun c => decide (97 ≤ c) && decide (c ≤ 122)
theorem isW_of {s : Str} (h : isWB s = true) : IsW s := by
  unfold isWB at h
  simp only [Bool.and_eq_true, decide_eq_true_eq, List.all_eq_true] at h
  exact ⟨h.1.1, h.1.2, h.2⟩
theorem isW_all {ws : List Str} (h : ws.all isWB = true) : ∀ s ∈ ws, IsW s := fun s hs => isW_of (List.all_eq_true.mp h s hs)
theorem spare_nodup : (spareOf (Str.ofString "abcdefghijklmnopqrstuvwxyz") (Str.ofString "q")).Nodup := by decide +kernel
theorem spare_isW : ∀ s ∈ spareOf (Str.ofString "abcdefghijklmnopqrstuvwxyz") (Str.ofString "q"), IsW s := isW_all (by decide +kernel)
theorem spare_len : (spareOf (Str.ofString "abcdefghijklmnopqrstuvwxyz") (Str.ofString "q")).length = 52 := by decide +kernel
theorem map_strs (ws us : List Str) : ws.map V.str ++ us.map V.str = (ws ++ us).map V.str := (List.map_append).symm
theorem nodup_snoc {A : List Str} {x : Str} (h : A.Nodup) (hx : x ∉ A) : (A ++ [x]).Nodup := by
  rw [List.nodup_append]
  refine ⟨h, by simp, ?_⟩
  intro a ha b hb
  rw [List.mem_singleton] at hb
  subst hb
  rintro rfl
  exact hx ha
end Kq

namespace Kq
open PySem PySem.Spec PyProof.Rows L2
/-! ## making instances of own classes; own methods -/
structure MkProm (P : Program) (w : World) (K : PySem.W.Frag) (mg : Str → Option Value) (base : Heap) (k : Nat) (x : Str) (C : Addr) (ps : List Str) (sp : Sp) : Prop where
  hm : mg x = some (.ref C)
  ex : ∃ f fd, Mk K C f ∧ Binds K fd ps [] ∧ FnOk P w K mg base CX0 k f fd ps sp
/-- the same, by keywords ks behind n values -/
structure MkKw (P : Program) (w : World) (K : PySem.W.Frag) (mg : Str → Option Value) (base : Heap) (k : Nat) (x : Str) (C : Addr) (ps : List Str) (sp : Sp) (n : Nat) (ks : List Str) (gV : List V → List V → List V) : Prop where
  hm : mg x = some (.ref C)
  ex : ∃ f fd, Mk K C f ∧ (∃ g, KBn K fd ps (n + 1) ks g gV) ∧ FnOk P w K mg base CX0 k f fd ps sp
section
variable {X : Cx} {k j n : Nat} {C : Addr} {ps ks : List Str} {sp : Sp} {x : Str} {p pos : Pos} {e : Expr} {es : List Expr} {t tk : TA} {kws : List Keyword} {gV : List V → List V → List V}
theorem pe_m (F : MkProm X.prog X.w X.K X.mg X.base k x C ps sp) (hr : Room j X.A) (hj : k + 1 ≤ j) (ha : PA X (e :: es) t) (hg : Gl X x := by rfl)
    (hdb : (x == ("__debug__" : Str)) = false := by decide) (he : starEach (e :: es) X.env = (false, eval e X.env) :: starEach es X.env := by rfl)
    (hpl : (backTo pos (starEach es X.env)).any (·.1) = false := by rfl) : PE X (.Call (.Name x p) (e :: es) [] pos) (tMake C sp [] E0 t) := by
  obtain ⟨f, fd, M, hb, G⟩ := F.ex
  exact pe_make M G (hr.mono hj) hg F.hm hb .nil pass0 ha hdb he hpl
theorem pe_mk (F : MkKw X.prog X.w X.K X.mg X.base k x C ps sp n ks gV) (hr : Room j X.A) (hj : k + 1 ≤ j) (ha : PA X (e :: es) t) (hkw : PK X kws tk) (hg : Gl X x := by rfl)
    (hall : (backToKw pos (keywordEach kws X.env)).all (·.1.isSome) = true := by rfl) (hks : (backToKw pos (keywordEach kws X.env)).filterMap (·.1) = ks := by rfl)
    (hdb : (x == ("__debug__" : Str)) = false := by decide) (he : starEach (e :: es) X.env = (false, eval e X.env) :: starEach es X.env := by rfl)
    (hpl : ((backTo pos (starEach (e :: es) X.env)).any (·.1) || (backToKw pos (keywordEach kws X.env)).any (·.1.isNone)) = false := by rfl) :
    PE X (.Call (.Name x p) (e :: es) kws pos) (tMakeN C n ks.length sp gV E0 t tk) := by
  obtain ⟨f, fd, M, ⟨g, hb⟩, G⟩ := F.ex
  exact pe_makeN M G (hr.mono hj) hg F.hm hb pass0 ha hkw hall hks hdb he hpl
end
end Kq

namespace Kq
open PySem PySem.Spec PyProof.Rows L2
/-! ## small data: its repr fits -/
structure Sm (d : PyData) : Prop where
  sh : d.showable = true
  dp : d.depth ≤ 8
  ln : d.shown.length ≤ 20000
theorem sm_none : Sm .none := ⟨rfl, Nat.zero_le _, by decide +kernel⟩
theorem sm_bool (b : Bool) : Sm (.bool b) := ⟨rfl, Nat.zero_le _, by cases b <;> decide +kernel⟩
theorem log2_lt {n k : Nat} (h : n < 2 ^ k) (hk : 0 < k) : n.log2 < k := by
  by_cases h0 : n = 0
  · subst h0
    rw [show Nat.log2 0 = 0 from rfl]
    exact hk
  · exact (Nat.log2_lt h0).mpr h
theorem sm_int {i : Int} (h : i.natAbs.log2 < 1920) : Sm (.int i) := ⟨decide_eq_true h, Nat.zero_le _, Nat.le_trans (int_text_len_1921 h) (by decide)⟩
theorem sm_str {x : Str} (h1 : x.length ≤ 1500) (h2 : ∀ c ∈ x.cps.toList, c < 16 ^ 8) : Sm (.str x) := ⟨rfl, Nat.zero_le _, by
  show (reprText x).length ≤ _
  have := StrLaws.reprText_len x h2
  omega⟩
theorem isW_signs8 {s : Str} (h : IsW s) : ∀ c ∈ s.cps.toList, c < 16 ^ 8 := fun c hc => by
  have := (h.2.2 c hc).2
  omega
theorem sm_word {s : Str} (h : IsW s) : Sm (.str s) := sm_str (by have := h.2.1; omega) (isW_signs8 h)
theorem textFrom_le : ∀ (ts : List Str) (k : Nat) (acc : Str), (textFrom k acc ts).length ≤ acc.length + (ts.map (·.length)).sum + 2 * ts.length
  | [], k, acc => Nat.le_refl _
  | t :: r, k, acc => by
    have h := textFrom_le r (k + 1) (acc ++ (if k > 0 then ", " else "" : String) ++ t)
    have e : (acc ++ (if k > 0 then ", " else "" : String) ++ t).length ≤ acc.length + 2 + t.length := by
      rw [strLen_append, strLen_append]
      split
      · show acc.length + 2 + t.length ≤ _
        omega
      · show acc.length + 0 + t.length ≤ _
        omega
    show (textFrom (k + 1) _ r).length ≤ _
    rw [List.map_cons, List.sum_cons, List.length_cons]
    omega
theorem listText_le (ts : List Str) : (listText ts).length ≤ (ts.map (·.length)).sum + 2 * ts.length + 2 := by
  unfold listText
  rw [strLen_append]
  have := textFrom_le ts 0 "["
  have h1 : (Str.ofString "[").length = 1 := by decide +kernel
  have h2 : (Str.ofString "]").length = 1 := by decide +kernel
  have h3 : ("[" : Str).length = 1 := h1
  have h4 : ("]" : Str).length = 1 := h2
  omega
theorem join_len (sep : Str) (h : sep.length ≤ 2) : ∀ ts : List Str, (Str.join sep ts).length ≤ (ts.map (·.length)).sum + 2 * ts.length
  | [] => by show 0 ≤ _; omega
  | [x] => by show x.length ≤ _; simp
  | x :: y :: r => by
    show (x ++ sep ++ Str.join sep (y :: r)).length ≤ _
    have := join_len sep h (y :: r)
    rw [strLen_append, strLen_append, List.map_cons, List.sum_cons, List.length_cons]
    omega
theorem tupleText_le (ts : List Str) : (tupleText ts).length ≤ (ts.map (·.length)).sum + 2 * ts.length + 3 := by
  unfold tupleText
  rw [strLen_append, strLen_append]
  have := join_len ", " (by decide +kernel) ts
  have h1 : ("(" : Str).length = 1 := by decide +kernel
  have h2 : ((if ts.length == 1 then ",)" else ")" : String) : Str).length ≤ 2 := by
    split <;> decide +kernel
  omega
theorem shownAll_eq : ∀ ds : List PyData, PyData.shownAll ds = ds.map PyData.shown
  | [] => rfl
  | d :: ds => by
    rw [List.map_cons, ← shownAll_eq ds]
    rfl
theorem showableAll_of : ∀ {ds : List PyData}, (∀ d ∈ ds, Sm d) → PyData.showableAll ds = true
  | [], _ => rfl
  | d :: ds, h => by
    show (d.showable && PyData.showableAll ds) = true
    rw [(h d (List.mem_cons_self ..)).sh, showableAll_of fun e he => h e (List.mem_cons_of_mem _ he)]
    rfl
theorem depthAll_of {n : Nat} : ∀ {ds : List PyData}, (∀ d ∈ ds, d.depth ≤ n) → PyData.depthAll ds ≤ n
  | [], _ => Nat.zero_le _
  | d :: ds, h => by
    show max d.depth (PyData.depthAll ds) ≤ n
    have h1 := h d (List.mem_cons_self ..)
    have h2 := depthAll_of (n := n) fun e (he : e ∈ ds) => h e (List.mem_cons_of_mem _ he)
    omega
theorem sum_le {n : Nat} : ∀ {ts : List Nat}, (∀ t ∈ ts, t ≤ n) → ts.sum ≤ n * ts.length
  | [], _ => Nat.zero_le _
  | t :: ts, h => by
    have h1 := h t (List.mem_cons_self ..)
    have h2 := sum_le (n := n) fun e (he : e ∈ ts) => h e (List.mem_cons_of_mem _ he)
    rw [List.sum_cons, List.length_cons, Nat.mul_add]
    omega
/-- a list of at most 100 of them fits -/
theorem sm_list {ds : List PyData} (h : ∀ d ∈ ds, Sm d) (hl : ds.length ≤ 100) : (PyData.list ds).showable = true ∧ (PyData.list ds).depth ≤ 30 ∧ (PyData.list ds).shown.length ≤ sizeLine := by
  refine ⟨showableAll_of h, ?_, ?_⟩
  · show PyData.depthAll ds + 1 ≤ 30
    have := depthAll_of (n := 8) fun d hd => (h d hd).dp
    omega
  · show (listText (PyData.shownAll ds)).length ≤ sizeLine
    have h1 := listText_le (PyData.shownAll ds)
    have h2 : ((PyData.shownAll ds).map (·.length)).sum ≤ 20000 * ((PyData.shownAll ds).map (·.length)).length := sum_le fun t ht => by
      rw [shownAll_eq, List.map_map] at ht
      obtain ⟨d, hd, rfl⟩ := List.mem_map.mp ht
      exact (h d hd).ln
    have h3 : (PyData.shownAll ds).length = ds.length := by rw [shownAll_eq, List.length_map]
    have sz : (sizeLine : Nat) = 16777216 := sizeLine_eq
    rw [List.length_map, h3] at h2
    rw [h3] at h1
    omega
/-! ## str of an instance with an own one -/
structure StrCls (K : PySem.W.Frag) (C f : Addr) : Prop where
  hs : PySem.W.findIn K (.ref C) "__str__" = some (some (.ref f))
  hf : PySem.W.isFn K (.ref f) = true
section
variable {X : Cx} {k : Nat} {C f : Addr} {fd : FuncData} {ps : List Str} {sp : Sp}
def rStrOwn (C : Addr) (sp : Sp) : List V → Hp → VK → Prop := fun xs H Q => ∃ a dx fs, xs = [.ref a] ∧ H a = some (.ins C dx fs) ∧ sp [.ref a] H (fun v H' => ∃ y, v = .str y ∧ Q (.str y) H') E0
theorem call_strOwn (F : FnOk X.prog X.w X.K X.mg X.base CX0 k f fd ps sp) (hb : Binds X.K fd ps []) (ec : StrCls X.K C f) {j : Nat} (hr : Room j X.A) (hj : k + 2 ≤ j) : CallR X (.type "str") (rStrOwn C sp) := by
  intro pins s σ H xs us Q I r h
  obtain ⟨a, dx, fs, rfl, ha, hsp⟩ := h
  obtain ⟨u, rfl, rx⟩ := vals1 r
  cases rx
  obtain ⟨mA, O, _⟩ := ins_get I.hok ha
  obtain ⟨od, J, _⟩ := O.look
  have hr2 := (hr.mono hj).in1.in1
  refine PySem.W.kso_call hr2.units0 I.kIn J ec.hs ec.hf ?_
  refine wpAny_mono (run_at F hb hr2 rfl (vs := [.ref a]) I (.cons rfl .nil) hsp) (fun v s' z => ?_) fun _ _ e => e
  obtain ⟨v', H', I', rv, y, rfl, q⟩ := z
  obtain ⟨t, rfl⟩ := rv
  exact ⟨.str y, H', I', ⟨t, rfl⟩, q⟩
end
end Kq
namespace Kq
open PySem PySem.Spec PyProof.Rows L2
/-! ## own == and != of a class, as promises -/
structure EqProm (P : Program) (w : World) (K : PySem.W.Frag) (mg : Str → Option Value) (base : Heap) (k : Nat) (C : Addr) (sp : Sp) : Prop where
  ex : ∃ f fd ps, EqCls K C f ∧ Binds K fd ps [] ∧ FnOk P w K mg base CX0 k f fd ps sp
structure StrProm (P : Program) (w : World) (K : PySem.W.Frag) (mg : Str → Option Value) (base : Heap) (k : Nat) (C : Addr) (sp : Sp) : Prop where
  ex : ∃ f fd ps, StrCls K C f ∧ Binds K fd ps [] ∧ FnOk P w K mg base CX0 k f fd ps sp
section
variable {X : Cx} {K : PySem.W.Frag} {k j : Nat} {C : Addr} {sp : Sp}
theorem opOE (F : EqProm X.prog X.w X.K X.mg X.base k C sp) (hr : Room j X.A) (hj : k ≤ j) (hK : X.K = K := by rfl) : OpR X (compareOp .Eq) (rOwn K C sp false) := by
  subst hK
  obtain ⟨f, fd, ps, ec, hb, G⟩ := F.ex
  exact op_ownEq G hb ec hr hj
theorem opON (F : EqProm X.prog X.w X.K X.mg X.base k C sp) (hr : Room j X.A) (hj : k + 1 ≤ j) (hK : X.K = K := by rfl) : OpR X (compareOp .NotEq) (rOwn K C sp true) := by
  subst hK
  obtain ⟨f, fd, ps, ec, hb, G⟩ := F.ex
  exact op_ownNe G hb ec hr hj
theorem callSO (F : StrProm X.prog X.w X.K X.mg X.base k C sp) (hr : Room j X.A) (hj : k + 2 ≤ j) : CallR X (.type "str") (rStrOwn C sp) := by
  obtain ⟨f, fd, ps, ec, hb, G⟩ := F.ex
  exact call_strOwn G hb ec hr hj
end
end Kq
namespace Kq
open PySem PySem.Spec PyProof.Rows L2
/-- the same for a def that lets nothing out -/
theorem Fun.okN {P : Program} {w : World} {K : PySem.W.Frag} {mg : Str → Option Value} {base : Heap} {k : Nat} {f : Addr} {fd : FuncData} {N ps : List Str} {sp : Sp} {x qual : Str} {st : Stmt} (F : Fun K x qual st f fd) (S : FnScope N ps (defScope st)) (len : ∀ vs H Q E, sp vs H Q E → vs.length = ps.length)
    (hbody : ∀ (cdv : Value) (A : Around) (outer : List Env) (s : Shared) (H : Hp) (vs : List V) (Q : VK) (E : XK),
      (A.deeper (envOfC qual (defScope st) s.heap.objs.size f cdv)).guards = some [] →
      Room k (A.deeper (envOfC qual (defScope st) s.heap.objs.size f cdv)) → sp vs H Q E →
      ∃ t, PSs (cxOf CX0 P w K mg base N qual (defScope st) f cdv A outer s H E).nox (defBody st) t ∧ t { nx := fun _ H' => Q .non H', rt := Q } (start N vs) H) :
    FnG P w K mg base CX0 (k + 1) f fd ps sp := Fun.okG F S len fun cdv A outer s H vs Q E hgd hr hsp => by
  obtain ⟨t, h, q⟩ := hbody cdv A outer s H vs Q E hgd hr hsp
  exact ⟨t, h.nox, q⟩
end Kq

namespace Kq
open PySem PySem.Spec PyProof.Rows L2
/-! ## the end of a law whose def wants no guarded built-in around it: the harness calls it with none -/
/-- the script's object -/
abbrev scriptO (us : List Value) : Obj := { cls := .type "list", data := .seq us.toArray }
/-- what is tracked at the start: the script, unless it is one of the module's own -/
def HpS (K : PySem.W.Frag) (a : Addr) (us : List Value) (ns : List Int) : Hp := fun b => if b = a ∧ (K.lookup a).isNone = true then some (.frz (scriptO us) (.lst (ns.map V.int))) else none
section
variable {P : Program} {w : World} {K : PySem.W.Frag} {mg mb : Str → Option Value} {k : Nat} {fa a : Addr} {fd : FuncData} {x : Str} {sp : Sp} {s : Shared} {us : List Value} {ns : List Int}
theorem HpS.at {b : Addr} {u : HO} (e : HpS K a us ns b = some u) : b = a ∧ K.lookup a = none ∧ u = .frz (scriptO us) (.lst (ns.map V.int)) := by
  unfold HpS at e
  split at e
  · rename_i h
    cases e
    exact ⟨h.1, Option.isNone_iff_eq_none.mp h.2, rfl⟩
  · cases e
theorem HpS.free {b : Addr} (h : b = a → K.lookup a ≠ none) : HpS K a us ns b = none := by
  cases e : HpS K a us ns b with
  | none => rfl
  | some u => exact absurd (HpS.at e).2.1 (h (HpS.at e).1)
theorem HpS.sq (KX : K.In s.heap) (ha : s.heap.get? a = some (scriptO us)) (hi : IntsAre us ns) (hl : ns.length ≤ sizeLine) : SqL K (HpS K a us ns) a (ns.map V.int) := by
  cases hk : K.lookup a with
  | some o =>
    have e := (KX a o hk).symm.trans ha
    cases e
    exact .inr ⟨_, us.toArray, _, hk, rfl, rfl, rfl, by rw [List.size_toArray, hi.length]; exact hl, by simpa using vals_ints hi⟩
  | none =>
    refine .inl (.inr ⟨scriptO us, ?_⟩)
    unfold HpS
    rw [if_pos ⟨rfl, by rw [hk]; rfl⟩]
theorem HpS.ok (ha : s.heap.get? a = some (scriptO us)) (hi : IntsAre us ns) (hl : ns.length ≤ sizeLine) : HOk P w (HpS K a us ns) s.heap := fun b u e => by
  obtain ⟨rfl, _, rfl⟩ := HpS.at e
  exact ⟨ha, by rw [List.length_map]; exact hl, us, _, vals_ints hi, ha⟩
theorem own_call (KX : K.In s.heap) (hns : s.heap.Ns mainGlobals mg) (hb : s.heap.Ns builtinsNs mb) (hbb : ∀ x : Str, x ≠ "__name__" → mb x = bootBuiltins x) (hlim : s.heap.NoLimit) (hg : s.gens = #[]) (ha : s.heap.get? a = some (scriptO us)) (hi : IntsAre us ns) (hl : ns.length ≤ sizeLine)
    (hr : Room k callerA) (hsy : ∃ mm, s.heap.Ns sysModules mm) (F : ∀ base : Heap, K.In base → base.Ns mainGlobals mg → (∃ o, base.get? sysModules = some o) → FnG P w K mg base CX0 k fa fd [x] sp) (hbind : ∀ (s : Shared) (u : Value), BindsTo s fd ⟨[u], []⟩ [(x, u)])
    (hsp : ∀ H : Hp, SqL K H a (ns.map V.int) → sp [.ref a] H (fun v _ => v = .bl true) E0) :
    codeAny (model P w) callerA (.call (.ref fa) ⟨[.ref a], []⟩) (fun r s' => r = .ok (.ret (.bool true)) ∧ OldK s.heap s'.heap ∧ s'.os = s.os ∧ AllBare s'.gens) s := by
  -- all but the script stands in the base
  have stays : ∀ {b : Addr} {o : Obj}, s.heap.get? b = some o → (b = a → K.lookup a ≠ none) → (hidT s.heap (HpS K a us ns)).get? b = some o := fun e n => hidT_get e (HpS.free n)
  have names : ∀ {b : Addr} {m : Str → Option Value}, s.heap.Ns b m → (hidT s.heap (HpS K a us ns)).Ns b m := fun ⟨o, es, ep, e, d, r⟩ => ⟨o, es, ep, stays e (by
    rintro rfl
    have := e.symm.trans ha
    cases this
    cases d), d, r⟩
  have kin : K.In (hidT s.heap (HpS K a us ns)) := fun b o e => stays (KX b o e) (by
    rintro rfl z
    rw [e] at z
    cases z)
  obtain ⟨mc, c1, c2⟩ := hlim
  have env : Env0 P w K mg (hidT s.heap (HpS K a us ns)) callerA [] s (HpS K a us ns) :=
    { frames := rfl, mod := ⟨kin, names hns, ⟨mb, names hb, hbb⟩, ⟨mc, names c1, c2⟩⟩, bs := fun _ _ e => of_hidT e, bsz := Nat.le_of_eq (hidT_size _ _), funs := trivial, frf := fun b hb => (nomatch (show b ∈ ([] : List Addr) from hb)), hok := HpS.ok ha hi hl, bare := .of_eq hg }
  have run := (F _ kin (names hns) (let ⟨_, h⟩ := hsy; let ⟨o, _, _, e, _⟩ := names h; ⟨o, e⟩)).run callerA [] s _ ⟨[.ref a], []⟩ [.ref a] [.ref a] _ _ rfl hr env (hbind s (.ref a)) (.cons rfl .nil) (hsp _ (HpS.sq KX ha hi hl))
  refine codeAny_mono run fun r s' h => ?_
  match r, h with
  | .error e, h => exact h.elim
  | .ok (.ret u), ⟨v, H', h1, h2, un, ok', rv, q⟩ =>
    have q' : v = .bl true := q
    subst q'
    cases (show u = Value.bool true from rv)
    refine ⟨rfl, OldK.of_keep fun b o e => ?_, h1, h2⟩
    cases t : HpS K a us ns b with
    | none => exact un.keep b o e t (fun z => nomatch (show b ∈ ([] : List Addr) from z)) (by simp)
    | some u =>
      obtain ⟨rfl, _, rfl⟩ := HpS.at t
      have := e.symm.trans ha
      cases this
      exact (ok' _ _ (un.frzs _ _ _ t)).1
end
end Kq
namespace Kq
open PySem PySem.Spec PyProof.Rows L2
theorem own_walk {l : PySem.W.OpenLaw} {n k : Nat} {q : Program} {loose : List Str} {XP : (Str → Option Value) → Heap → Prop} {YP : World → Heap → Prop} {d : DefRec} {K : Params → PySem.W.Frag} {sp : PySem.W.Frag → Sp} {x : Str} (hq : importsNone q = true) (hn : l.most = some n) (hz : n ≤ sizeLine) (hd : d.params.defaults = []) (hr : Room k callerA)
    (hY : ∀ (w : World) (h : Heap), YP w h → (K w.params).In h)
    (F : ∀ (w : World) (mg : Str → Option Value) (fa : Addr) (h : Heap), (K w.params).In h → h.Ns mainGlobals mg → mg d.name = some (.ref fa) →
      ∃ fd : FuncData, (∀ (s : Shared) (v : Value), BindsTo s fd ⟨[v], []⟩ [(x, v)]) ∧ ∀ base : Heap, (K w.params).In base → base.Ns mainGlobals mg → (∃ o, base.get? sysModules = some o) → FnG l.prog w (K w.params) mg base CX0 k fa fd [x] (sp (K w.params)))
    (hsp : ∀ (K : PySem.W.Frag) (H : Hp) (a : Addr) (ns : List Int), ns.length ≤ n → SqL K H a (ns.map V.int) → sp K [.ref a] H (fun v _ => v = .bl true) E0) :
    PySem.W.WalkO q loose XP YP l.row.toRowW d [] (fun f vs => PySem.call f vs) :=
  Att.attach_call hn hd fun w _ s mg _ fa _ _ _ _ a us ns G Y _ _ _ hm ho hi hl hg =>
    have KX := hY w _ Y
    let ⟨_, hb, hF⟩ := F w mg fa _ KX G.T.g hm
    own_call KX G.T.g G.T.b G.T.builtins G.T.nolimit hg ho hi (Nat.le_trans hl hz) hr (let ⟨mm, h, _⟩ := (G.T.seer hq).mods; ⟨mm, h⟩) hF hb fun H hS => hsp _ H a ns hl hS
theorem kb_rel {vs zs : List V} {us ws : List Value} (r1 : Vals vs us) (r2 : Vals zs ws) : Vals (vs ++ zs.reverse) (us ++ ws.reverse) := by
  have rev : ∀ {zs : List V} {ws : List Value}, Vals zs ws → Vals zs.reverse ws.reverse := by
    intro zs ws r
    induction r with
    | nil => exact .nil
    | cons h _ ih =>
      rw [List.reverse_cons, List.reverse_cons]
      exact ih.append (.cons h .nil)
  exact r1.append (rev r2)
end Kq

namespace L16
open PySem PySem.Spec PyProof.Rows L2 Kq
abbrev TB : Tb := [(.inr "a", .non)]
theorem tbF : flatT TB = true := rfl
def top (i : Nat) : Stmt := PySem.Challenge.pw_keptphrases_k16_pulls_compared.main.body.getD i (.Pass ⟨0, 0, 0, 0⟩)
abbrev st_Pull_init : Stmt := inClass (top 1) 0
abbrev N_Pull_init : List Str := ["self", "word", "at", "left", "right"]
abbrev ps_Pull_init : List Str := ["self", "word", "at", "left", "right"]
theorem sc_Pull_init : FnScope N_Pull_init ps_Pull_init (defScope st_Pull_init) := ⟨rfl, rfl, rfl, by decide +kernel, rfl, by decide +kernel, by decide +kernel⟩
abbrev st_Pull_eq : Stmt := inClass (top 1) 1
abbrev N_Pull_eq : List Str := ["self", "other"]
abbrev ps_Pull_eq : List Str := ["self", "other"]
theorem sc_Pull_eq : FnScope N_Pull_eq ps_Pull_eq (defScope st_Pull_eq) := ⟨rfl, rfl, rfl, by decide +kernel, rfl, by decide +kernel, by decide +kernel⟩
abbrev st_Pull_str : Stmt := inClass (top 1) 2
abbrev N_Pull_str : List Str := ["self"]
abbrev ps_Pull_str : List Str := ["self"]
theorem sc_Pull_str : FnScope N_Pull_str ps_Pull_str (defScope st_Pull_str) := ⟨rfl, rfl, rfl, by decide +kernel, rfl, by decide +kernel, by decide +kernel⟩
abbrev st_pen : Stmt := top 3
abbrev N_pen : List Str := ["_law_script"]
abbrev ps_pen : List Str := ["_law_script"]
theorem sc_pen : FnScope N_pen ps_pen (defScope st_pen) := ⟨rfl, rfl, rfl, by decide +kernel, rfl, by decide +kernel, by decide +kernel⟩
abbrev st_draw : Stmt := top 4
abbrev N_draw : List Str := ["_law_pen_here", "_law_many", "_law_digit", "_law_at", "_law_cell", "_law_great", "_law_mixed"]
abbrev ps_draw : List Str := ["_law_pen_here", "_law_many"]
theorem sc_draw : FnScope N_draw ps_draw (defScope st_draw) := ⟨rfl, rfl, rfl, by decide +kernel, rfl, by decide +kernel, by decide +kernel⟩
abbrev st_pick : Stmt := top 5
abbrev N_pick : List Str := ["_law_pen_here", "_law_some"]
abbrev ps_pick : List Str := ["_law_pen_here", "_law_some"]
theorem sc_pick : FnScope N_pick ps_pick (defScope st_pick) := ⟨rfl, rfl, rfl, by decide +kernel, rfl, by decide +kernel, by decide +kernel⟩
abbrev st_word : Stmt := top 6
abbrev N_word : List Str := ["_law_pen_here", "_law_some", "_law_spot"]
abbrev ps_word : List Str := ["_law_pen_here"]
theorem sc_word : FnScope N_word ps_word (defScope st_word) := ⟨rfl, rfl, rfl, by decide +kernel, rfl, by decide +kernel, by decide +kernel⟩
abbrev st_words : Stmt := top 7
abbrev N_words : List Str := ["_law_pen_here", "_law_many", "_law_letters", "_law_sign", "_law_spare", "_law_found", "_law_turn", "_law_word_here", "_law_each"]
abbrev ps_words : List Str := ["_law_pen_here", "_law_many"]
theorem sc_words : FnScope N_words ps_words (defScope st_words) := ⟨rfl, rfl, rfl, by decide +kernel, rfl, by decide +kernel, by decide +kernel⟩
abbrev st_value : Stmt := top 8
abbrev N_value : List Str := ["_law_pen_here", "_law_some"]
abbrev ps_value : List Str := ["_law_pen_here"]
theorem sc_value : FnScope N_value ps_value (defScope st_value) := ⟨rfl, rfl, rfl, by decide +kernel, rfl, by decide +kernel, by decide +kernel⟩
abbrev st_pull : Stmt := top 9
abbrev N_pull : List Str := ["_law_some", "_law_is_named"]
abbrev ps_pull : List Str := ["_law_some", "_law_is_named"]
theorem sc_pull : FnScope N_pull ps_pull (defScope st_pull) := ⟨rfl, rfl, rfl, by decide +kernel, rfl, by decide +kernel, by decide +kernel⟩
abbrev st_told : Stmt := top 10
abbrev N_told : List Str := ["_law_pull_here"]
abbrev ps_told : List Str := ["_law_pull_here"]
theorem sc_told : FnScope N_told ps_told (defScope st_told) := ⟨rfl, rfl, rfl, by decide +kernel, rfl, by decide +kernel, by decide +kernel⟩
abbrev st_right : Stmt := top 11
abbrev N_right : List Str := ["_law_some", "_law_rest", "_law_is_named", "_law_one", "_law_other", "_law_due", "_law_each"]
abbrev ps_right : List Str := ["_law_some", "_law_rest", "_law_is_named"]
theorem sc_right : FnScope N_right ps_right (defScope st_right) := ⟨rfl, rfl, rfl, by decide +kernel, rfl, by decide +kernel, by decide +kernel⟩
abbrev st_law : Stmt := top 12
abbrev N_law : List Str := ["_law_script", "_law_pen_here", "_law_turn", "_law_words_here", "_law_at", "_law_some", "_law_spot", "_law_rest"]
abbrev ps_law : List Str := ["_law_script"]
theorem sc_law : FnScope N_law ps_law (defScope st_law) := ⟨rfl, rfl, rfl, by decide +kernel, rfl, by decide +kernel, by decide +kernel⟩
structure Txt (K : PySem.W.Frag) (mg : Str → Option Value) : Prop where
  n_len : mg "len" = none
  n_int : mg "int" = none
  n_abs : mg "abs" = none
  n_list : mg "list" = none
  n_range : mg "range" = none
  n_repr : mg "repr" = none
  n_str : mg "str" = none
  n_tuple : mg "tuple" = none
  n_isinstance : mg "isinstance" = none
section
variable {P : Program} {w : World} {K : PySem.W.Frag} {mg : Str → Option Value} {base : Heap}
theorem ok_pen {f : Addr} {fd : FuncData} (F : Fun K "_law_pen" "_law_pen" st_pen f fd) (T : Txt K mg) : FnOk P w K mg base CX0 1 f fd ps_pen (spPen K) := by
  refine F.ok sc_pen (fun vs H Q E h => ?_) (fun cdv A outer s H vs Q E hr h => ?_)
  · obtain ⟨a, ns, rfl, _⟩ := h
    rfl
  · obtain ⟨a, ns, rfl, hS, hl, q⟩ := h
    refine ⟨_, (pss_one (ps_ret (pe_lst (pa_cons (pe_callTy (callListP (K := K)) rfl T.n_list (by decide +kernel) (pa_cons (pe_slice (slP (K := K)) (pv 0) po_none (po_some pe_int)) pa_nil)) (pa_cons pe_int (pa_cons pe_int pa_nil)))))), ?_⟩
    refine ⟨_, rfl, 63, rfl, Or.inl ⟨a, _, rfl, hS, fun p1 h1 => ?_⟩⟩
    refine ⟨p1, _, rfl, Or.inl (SqL.of upd_same), fun c hc => ?_⟩
    refine ⟨by show 3 ≤ sizeLine; decide, fun p hp => ?_⟩
    have e1 : cutV (ns.map V.int) none (some 63) = ns.map V.int := by
      rw [show (63 : Int) = ((63 : Nat) : Int) from rfl, cut_hi, List.take_of_length_le (by rw [List.length_map]; exact hl)]
    have s1 := Same.upd (o := HO.lst (cutV (ns.map V.int) none (some 63))) h1
    have s2 := Same.upd (o := HO.lst (cutV (ns.map V.int) none (some 63))) hc
    have s3 := Same.upd (o := HO.lst [V.ref c, V.int 0, V.int 0]) hp
    refine q _ _ _ (s1.free (s2.free hp)) (s1.free hc) ⟨ns, 0, 0, upd_same, ?_, hl, Int.le_refl _, Int.le_refl _⟩ ((s1.trans s2).trans s3)
    have e2 := s3 _ _ upd_same
    rw [e1] at e2
    rw [e1]
    exact e2
theorem ok_draw {f : Addr} {fd : FuncData} (F : Fun K "_law_draw" "_law_draw" st_draw f fd) (T : Txt K mg) : FnOk P w K mg base CX0 1 f fd ps_draw spDraw := by
  refine F.ok sc_draw (fun vs H Q E h => ?_) (fun cdv A outer s H vs Q E hr h => ?_)
  · obtain ⟨p, c, n, rest, rfl, _, _, ⟨m, rfl, _⟩, _⟩ := h
    rfl
  · obtain ⟨p, c, n, rest, rfl, ⟨ns, k, r, hp, hc, hl, hk0, hkn⟩, hn, ⟨m, rfl, hm0, hm1⟩, q⟩ := h
    have hu := hr.units
    have hcp := pen_ne hp hc
    refine ⟨_, (pss_cons (ps_if (pt_cmpR opGtP (pe_ix (ixP (K := K)) (pv 0) pe_int (fun _ _ => rfl)) pe_int (by first | exact nomark _ | rfl)) (pss_cons (ps_set (i := 2) sc_draw.nd rfl (by first | exact Or.inl rfl | exact Or.inr rfl) (pe_op op_mod (pe_callTy call_int1 rfl T.n_int (by decide +kernel) (pa_cons (pe_ix (ixP (K := K)) (pv 0) pe_int (fun _ _ => rfl)) pa_nil)) (pv 1))) (pss_cons (ps_asg (pe_op op_fdiv (pe_callTy call_int1 rfl T.n_int (by decide +kernel) (pa_cons (pe_ix (ixP (K := K)) (pv 0) pe_int (fun _ _ => rfl)) pa_nil)) (pv 1)) (pg_sub (pv 0) pe_int set_list)) (pss_one (ps_ret (pv 2))))) pss_nil) (pss_cons (ps_set (i := 3) sc_draw.nd rfl (by first | exact Or.inl rfl | exact Or.inr rfl) (pe_ix (ixP (K := K)) (pv 0) pe_int (fun _ _ => rfl))) (pss_cons (ps_asg (pe_op (opAddP (K := K)) (pv 3) pe_int) (pg_sub (pv 0) pe_int set_list)) (pss_cons (ps_set (i := 4) sc_draw.nd rfl (by first | exact Or.inl rfl | exact Or.inr rfl) (pe_op (opAddP (K := K)) (pe_op opMulP pe_int (pv 3)) pe_int)) (C8.pss_cut (ps_if (pt_cmpR (opNeP (K := K) hu) (pe_ix (ixP (K := K)) (pv 0) pe_int (fun _ _ => rfl)) (pe_lst pa_nil) (by first | exact nomark _ | rfl)) (pss_one (ps_set (i := 4) sc_draw.nd rfl (by first | exact Or.inl rfl | exact Or.inr rfl) (pe_ix (ixP (K := K)) (pe_ix (ixP (K := K)) (pv 0) pe_int (fun _ _ => rfl)) (pe_op op_mod (pe_callTy call_int1 rfl T.n_int (by decide +kernel) (pa_cons (pv 3) pa_nil)) (pe_callB (callLenP (K := K)) rfl T.n_len (by decide +kernel) (pa_cons (pe_ix (ixP (K := K)) (pv 0) pe_int (fun _ _ => rfl)) pa_nil))) (fun _ _ => rfl)))) pss_nil) (C8.pss_cut (ps_if (PW.pt (pw_and (pt_cmpR opLtP (pv 3) (pe_callB (callLenP (K := K)) rfl T.n_len (by decide +kernel) (pa_cons (pe_ix (ixP (K := K)) (pv 0) pe_int (fun _ _ => rfl)) pa_nil)) (by first | exact nomark _ | rfl)) (pw_and1 (pt_cmpR opGeP (pe_callB call_abs rfl T.n_abs (by decide +kernel) (pa_cons (pv 4) pa_nil)) (pe_op op_pow pe_int pe_int) (by first | exact nomark _ | rfl))))) (pss_cons (ps_set (i := 5) sc_draw.nd rfl (by first | exact Or.inl rfl | exact Or.inr rfl) (pe_op (opAddP (K := K)) (pe_op opMulP pe_int (pe_op opSubP (pe_callB call_abs rfl T.n_abs (by decide +kernel) (pa_cons (pv 4) pa_nil)) (pe_op op_pow pe_int pe_int))) (pe_callTy call_int1 rfl T.n_int (by decide +kernel) (pa_cons (pe_cmpR opLtP (pv 4) pe_int (by first | exact nomark _ | rfl)) pa_nil)))) (pss_cons (ps_asg (pe_op op_fdiv (pe_callTy call_int1 rfl T.n_int (by decide +kernel) (pa_cons (pv 5) pa_nil)) (pv 1)) (pg_sub (pv 0) pe_int set_list)) (pss_one (ps_ret (pe_op op_mod (pe_callTy call_int1 rfl T.n_int (by decide +kernel) (pa_cons (pv 5) pa_nil)) (pv 1)))))) pss_nil) (pss_cons (ps_set (i := 6) sc_draw.nd rfl (by first | exact Or.inl rfl | exact Or.inr rfl) (pe_op op_mod (pe_callTy call_int1 rfl T.n_int (by decide +kernel) (pa_cons (pe_op op_pow (pe_op (opAddP (K := K)) (pe_op (opAddP (K := K)) (pe_op op_mod (pe_callTy call_int1 rfl T.n_int (by decide +kernel) (pa_cons (pv 4) pa_nil)) pe_int) (pe_op opMulP pe_int (pv 3))) pe_int) pe_int) pa_nil)) pe_int)) (pss_cons (ps_set (i := 6) sc_draw.nd rfl (by first | exact Or.inl rfl | exact Or.inr rfl) (pe_op op_mod (pe_callTy call_int1 rfl T.n_int (by decide +kernel) (pa_cons (pe_op op_pow (pe_op (opAddP (K := K)) (pe_op (opAddP (K := K)) (pe_op opMulP (pv 6) (pe_op (opAddP (K := K)) (pe_op opMulP pe_int (pv 3)) pe_int)) (pe_op opMulP (pe_op opMulP pe_int (pv 3)) (pv 3))) pe_int) pe_int) pa_nil)) pe_int)) (pss_one (ps_ret (pe_op op_mod (pe_callTy call_int1 rfl T.n_int (by decide +kernel) (pa_cons (pe_op op_fdiv (pv 6) pe_int) pa_nil)) (pv 1)))))))))))), ?_⟩
    -- while a great number lasts
    refine ⟨_, rfl, Or.inl ⟨p, _, 2, _, rfl, rfl, SqL.of hp, rfl, Or.inl ⟨r, 0, rfl, rfl, _, rfl, ?_⟩⟩⟩
    refine ite2 (fun _ => ?_) (fun _ => ?_)
    · refine ⟨_, rfl, Or.inl ⟨p, _, 2, _, rfl, rfl, SqL.of hp, rfl, Or.inl ⟨_, rfl, _, rfl, _, _, rfl, rfl, hm0, ?_⟩⟩⟩
      refine ⟨_, rfl, Or.inl ⟨p, _, 2, _, rfl, rfl, SqL.of hp, rfl, Or.inl ⟨_, rfl, _, rfl, _, _, rfl, rfl, ⟨hm0, hm1⟩, ?_⟩⟩⟩
      refine ⟨_, rfl, p, _, 2, 2, rfl, rfl, hp, rfl, ?_⟩
      refine ⟨_, rfl, ?_⟩
      exact q _ _ (pen_set hc hcp hl hk0 (by omega)) Same.updP ⟨m, _, rfl, rfl, Int.emod_nonneg _ (by omega), Int.emod_lt_of_pos _ hm0⟩
    -- the index goes on
    refine ⟨_, rfl, Or.inl ⟨p, _, 1, _, rfl, rfl, SqL.of hp, rfl, ?_⟩⟩
    refine ⟨_, rfl, Or.inl ⟨_, _, rfl, rfl, ?_⟩⟩
    refine ⟨_, rfl, p, _, 1, 1, rfl, rfl, hp, rfl, ?_⟩
    -- the cell
    refine ⟨_, rfl, Or.inl ⟨_, _, rfl, rfl, cmul_l (by decide) (by decide), Or.inl ⟨_, _, rfl, rfl, ?_⟩⟩⟩
    have s1 : Same (Im H p) (Im (upd H p (.lst (List.set [V.ref c, V.int k, V.int r] 1 (.int (k + 1))))) p) := Same.updP
    have hp1 : (upd H p (.lst (List.set [V.ref c, V.int k, V.int r] 1 (.int (k + 1))))) p = some (.lst [V.ref c, V.int (k + 1), V.int r]) := upd_same
    have hc1 : (upd H p (.lst (List.set [V.ref c, V.int k, V.int r] 1 (.int (k + 1))))) c = some (.lst (ns.map V.int)) := by rw [upd_ne hcp]; exact hc
    generalize (upd H p (.lst (List.set [V.ref c, V.int k, V.int r] 1 (.int (k + 1))))) = H1 at s1 hp1 hc1 ⊢
    refine ⟨fun σ' H' => ∃ z : Int, Same H1 H' ∧ σ' = [some (.ref p), some (.int m), none, some (.int k), some (.int z), none, none], ?_, ?_⟩
    · refine ⟨_, rfl, Or.inl ⟨p, _, 0, _, rfl, rfl, SqL.of hp1, rfl, Nat.zero_le _, fun l hl => ?_⟩⟩
      have s2 := Same.upd (o := HO.lst []) hl
      refine Or.inr ⟨.list (ns.map PyData.int), .list [], Dp.lst (SqL.of (s2 _ _ hc1)) (dp_ints ns), Dp.lst (SqL.of upd_same) .nil, shaped_ints ns, rfl, _, rfl, ?_⟩
      rw [eqv_nil]
      by_cases hns : ns = []
      · subst hns
        exact iteF ⟨_, s2, rfl⟩
      · rw [show ns.isEmpty = false from by cases ns with | nil => exact absurd rfl hns | cons => rfl]
        refine iteT ?_
        obtain ⟨z, hz⟩ := at_mod hns k
        refine ⟨_, rfl, Or.inl ⟨p, _, 0, _, rfl, rfl, SqL.of (s2 _ _ hp1), rfl, ?_⟩⟩
        refine ⟨_, rfl, Or.inl ⟨_, rfl, ?_⟩⟩
        refine ⟨_, rfl, Or.inl ⟨p, _, 0, _, rfl, rfl, SqL.of (s2 _ _ hp1), rfl, Or.inl ⟨c, _, rfl, Or.inl (SqL.of (s2 _ _ hc1)), ?_⟩⟩⟩
        refine ⟨_, _, rfl, rfl, ?_, ?_⟩
        · rw [len_map_int]
          have := List.length_pos_iff.mpr hns
          omega
        refine Or.inl ⟨c, _, _, _, rfl, rfl, SqL.of (s2 _ _ hc1), (by rw [len_map_int]; exact hz), ?_⟩
        exact ⟨z, s2, rfl⟩
    rintro σ' H' ⟨z, s2, rfl⟩
    have hp2 := s2 _ _ hp1
    have hc2 := s2 _ _ hc1
    have pen2 : ∀ {H3 : Hp}, Same H1 H3 → PenAt H3 p c (n + 1) := fun s3 => ⟨ns, k + 1, r, s3 _ _ hp1, s3 _ _ hc1, hl, by omega, by omega⟩
    refine ⟨fun σ' H3 => Same H1 H3 ∧ σ' = [some (.ref p), some (.int m), none, some (.int k), some (.int z), none, none], ?_, ?_⟩
    · have cp : CPow 10 18 := ⟨by decide, by decide, by decide⟩
      refine ⟨_, rfl, _, rfl, Or.inl ⟨p, _, 0, _, rfl, rfl, SqL.of hp2, rfl, Or.inl ⟨c, _, rfl, Or.inl (SqL.of hc2), Or.inl ⟨_, _, rfl, rfl, _, rfl, ?_⟩⟩⟩⟩
      refine ite2 (fun _ => ?_) (fun _ => ?_)
      · refine ⟨_, rfl, _, rfl, _, _, rfl, rfl, cp, Or.inl ⟨_, _, rfl, rfl, _, rfl, ?_⟩⟩
        refine ite2 (fun _ => ?_) (fun _ => ?_)
        · refine ⟨_, rfl, _, rfl, _, _, rfl, rfl, cp, _, _, rfl, rfl, Or.inl ⟨_, _, rfl, rfl, cmul_l (by decide) (by decide), _, rfl, Or.inl ⟨_, _, rfl, rfl, Or.inr ⟨_, rfl, Or.inl ⟨_, _, rfl, rfl, ?_⟩⟩⟩⟩⟩
          generalize 2 * ((if z < 0 then -z else z) - 10 ^ Int.toNat 18) + (if (decide (z < 0)) = true then 1 else 0) = g
          refine ⟨_, rfl, Or.inl ⟨_, rfl, _, rfl, _, _, rfl, rfl, ⟨hm0, hm1⟩, ?_⟩⟩
          refine ⟨_, rfl, p, _, 2, 2, rfl, rfl, hp2, rfl, ?_⟩
          refine ⟨_, rfl, Or.inl ⟨_, rfl, _, rfl, _, _, rfl, rfl, hm0, ?_⟩⟩
          exact q _ _ (pen_set hc2 hcp hl (by omega) (by omega)) ((s1.trans (sameIm s2)).trans Same.updP) ⟨m, _, rfl, rfl, Int.emod_nonneg _ (by omega), Int.emod_lt_of_pos _ hm0⟩
        · exact ⟨s2, rfl⟩
      · exact iteF ⟨s2, rfl⟩
    rintro σ' H3 ⟨s3, rfl⟩
    have hM : ∀ {a b : Int}, 0 < b → 0 ≤ a % b ∧ a % b < b := fun h => ⟨Int.emod_nonneg _ (by omega), Int.emod_lt_of_pos _ h⟩
    refine ⟨_, rfl, Or.inl ⟨_, rfl, _, _, rfl, rfl, (by show (0 : Int) < _; decide), ?_⟩⟩
    refine ⟨_, rfl, Or.inl ⟨_, _, rfl, rfl, cmul_l (by decide) (by decide), ?_⟩⟩
    refine Or.inl ⟨_, _, rfl, rfl, Or.inl ⟨_, _, rfl, rfl, ?_⟩⟩
    refine ⟨_, _, rfl, rfl, ⟨by decide, by decide, ?_⟩, Or.inl ⟨_, rfl, _, _, rfl, rfl, (by show (0 : Int) < _; decide), ?_⟩⟩
    · have h1 := hM (a := z) (b := 2147483563) (by decide)
      exact mix1 hk0 (by omega) _ _ _ h1.1 (by omega) (by decide) (by decide) (by decide) (by decide)
    have hx1 := hM (a := (z % 2147483563 + 48079 * k + 497) ^ Int.toNat 5) (b := 2147483477) (by decide)
    refine ⟨_, rfl, _, rfl, Or.inl ⟨_, _, rfl, rfl, cmul_l (by decide) (by decide), Or.inl ⟨_, _, rfl, rfl, Or.inl ⟨_, _, rfl, rfl, cmul_l (by omega) (by omega), ?_⟩⟩⟩⟩
    refine ⟨_, rfl, Or.inl ⟨_, _, rfl, rfl, cmul_l (by decide) (by decide), ?_⟩⟩
    refine ⟨_, rfl, Or.inl ⟨_, _, rfl, rfl, cmul_r (by omega) (by omega), ?_⟩⟩
    refine Or.inl ⟨_, _, rfl, rfl, Or.inl ⟨_, _, rfl, rfl, ?_⟩⟩
    refine ⟨_, _, rfl, rfl, ⟨by decide, by decide, ?_⟩, Or.inl ⟨_, rfl, _, _, rfl, rfl, (by show (0 : Int) < _; decide), ?_⟩⟩
    · exact mix2 hk0 (by omega) _ _ _ _ 0 hx1.1 (by omega) (by decide) (by decide) (by decide) (by decide) (by decide) (by decide) (by decide) (by decide)
    refine ⟨_, rfl, _, _, rfl, rfl, ⟨by decide, by decide⟩, Or.inl ⟨_, rfl, _, rfl, _, _, rfl, rfl, hm0, ?_⟩⟩
    exact q _ _ (pen2 s3) (s1.trans (sameIm s3)) ⟨m, _, rfl, rfl, Int.emod_nonneg _ (by omega), Int.emod_lt_of_pos _ hm0⟩
end
end L16

namespace L16
open PySem PySem.Spec PyProof.Rows L2 Kq
section
variable {P : Program} {w : World} {K : PySem.W.Frag} {mg : Str → Option Value} {base : Heap}
theorem ok_pick {f : Addr} {fd : FuncData} (F : Fun K "_law_pick" "_law_pick" st_pick f fd) (T : Txt K mg) (P_draw : Prom P w K mg base 1 "_law_draw" ps_draw spDraw) : FnOk P w K mg base CX0 2 f fd ps_pick spPick := by
  refine F.ok sc_pick (fun vs H Q E h => ?_) (fun cdv A outer s H vs Q E hr h => ?_)
  · obtain ⟨p, c, n, rest, rfl, _, _, ⟨x, rfl, _⟩, _⟩ := h
    rfl
  · obtain ⟨p, c, n, rest, rfl, hP, hn, ⟨x, rfl, hx⟩, q⟩ := h
    refine ⟨_, (pss_one (ps_ret (pe_ix (ixP (K := K)) (pv 1) (pe_p P_draw hr (by decide) (pa_cons (pv 0) (pa_cons (pe_callB (callLenP (K := K)) rfl T.n_len (by decide +kernel) (pa_cons (pv 1) pa_nil)) pa_nil))) (fun _ _ => rfl)))), ?_⟩
    rcases hx with ⟨a, xs, rfl, ha, hne, hl⟩ | ⟨z, rfl, h0, hl⟩
    · have hlen : 0 < xs.length := List.length_pos_iff.mpr hne
      have hsq : ∀ {h : Hp}, Same (Im H p) h → (SqL K h a xs ∨ SqT K h a xs) := fun sm => ha.elim (fun e => Or.inl (SqL.of (sm _ _ e))) (fun e => Or.inr (SqT.of (sm _ _ e)))
      refine ⟨_, rfl, _, rfl, _, rfl, Or.inl ⟨a, xs, rfl, hsq Im_sub, ?_⟩⟩
      refine ⟨p, c, n, _, rfl, hP, hn, ⟨_, rfl, by omega, by omega⟩, ?_⟩
      rintro v H' hP' hs ⟨m, r, e1, rfl, hr0, hr1⟩
      cases e1
      obtain ⟨j, rfl⟩ := Int.eq_ofNat_of_zero_le hr0
      have hj : j < xs.length := by omega
      have hat : atI xs (j : Int) = some xs[j] := atI_nat (List.getElem?_eq_getElem hj)
      have fin : Q xs[j] H' := q _ _ hP' hs ⟨_, rfl, Or.inl ⟨a, xs, rfl, ha.elim (fun e => Or.inl (hs _ _ e)) (fun e => Or.inr (hs _ _ e)), List.getElem_mem hj⟩⟩
      rcases ha with e | e
      · exact Or.inl ⟨a, xs, _, _, rfl, rfl, SqL.of (Im_sub _ _ (hs _ _ e)), hat, fin⟩
      · exact Or.inr (Or.inl ⟨a, xs, _, _, rfl, rfl, SqT.of (Im_sub _ _ (hs _ _ e)), hat, fin⟩)
    · refine ⟨_, rfl, _, rfl, _, rfl, Or.inr ⟨z, rfl, Nat.le_trans hl (by decide), ?_⟩⟩
      refine ⟨p, c, n, _, rfl, hP, hn, ⟨_, rfl, by omega, by omega⟩, ?_⟩
      rintro v H' hP' hs ⟨m, r, e1, rfl, hr0, hr1⟩
      cases e1
      obtain ⟨j, rfl⟩ := Int.eq_ofNat_of_zero_le hr0
      have hj : j < z.cps.toList.length := by
        rw [Array.length_toList]
        show j < z.length
        omega
      refine Or.inr (Or.inr ⟨z, _, _, rfl, rfl, Nat.le_trans hl (by decide), atI_nat (List.getElem?_eq_getElem hj), ?_⟩)
      exact q _ _ hP' hs ⟨_, rfl, Or.inr ⟨z, _, rfl, List.getElem_mem hj, rfl⟩⟩
end
end L16

namespace L16
open PySem PySem.Spec PyProof.Rows L2 Kq
section
variable {P : Program} {w : World} {K : PySem.W.Frag} {mg : Str → Option Value} {base : Heap}
theorem ok_word {f : Addr} {fd : FuncData} (F : Fun K "_law_word" "_law_word" st_word f fd) (T : Txt K mg) (P_pick : Prom P w K mg base 2 "_law_pick" ps_pick spPick) : FnOk P w K mg base CX0 3 f fd ps_word spWord := by
  refine F.ok sc_word (fun vs H Q E h => ?_) (fun cdv A outer s H vs Q E hr h => ?_)
  · obtain ⟨p, c, n, rest, rfl, _, _, h0, _⟩ := h
    rw [show rest = [] from h0]
    rfl
  · obtain ⟨p, c, n, rest, rfl, hP, hn, h0, q⟩ := h
    obtain rfl : rest = [] := h0
    refine ⟨_, (pss_cons (ps_set (i := 1) sc_word.nd rfl (by first | exact Or.inl rfl | exact Or.inr rfl) (pe_p P_pick hr (by decide) (pa_cons (pv 0) (pa_cons (pe_lst (pa_cons pe_str (pa_cons pe_str (pa_cons pe_str (pa_cons pe_str pa_nil))))) pa_nil)))) (pss_one (ps_ret (pe_bm PySem.F.plainAttrs_str PySem.F.slot_str_join PySem.F.type_str_join mt_join pe_str (pa_cons (pe_lc (own := [("_law_spot", 2)]) rfl sc_word.nd (pi_range1 rfl T.n_range (pa_cons (pe_p P_pick hr (by decide) (pa_cons (pv 0) (pa_cons (pe_lst (pa_cons pe_int (pa_cons pe_int (pa_cons pe_int (pa_cons pe_int (pa_cons pe_int (pa_cons pe_int pa_nil))))))) pa_nil))) pa_nil)) (blkOk_by (N := N_word) (sc := defScope st_word) (by decide +kernel)) (fun _ _ _ _ _ => (pg_name (i := 2) sc_word.nd rfl (by first | exact Or.inl rfl | exact Or.inr rfl))) (fun _ _ _ _ _ => pts_nil) (fun _ _ _ _ _ => (pe_p P_pick hr (by decide) (pa_cons (pv 0) (pa_cons (pv 1) pa_nil))))) pa_nil))))), ?_⟩
    refine ⟨_, rfl, by show 4 ≤ sizeLine; decide, fun l hl => ?_⟩
    refine ⟨p, c, n, _, rfl, hP.upd hl, by omega, ⟨_, rfl, Or.inl ⟨l, _, rfl, Or.inl (Im_upd (hP.ne hl)), by simp, by show 4 ≤ 100000; decide⟩⟩, ?_⟩
    rintro v H1 hP1 hs1 ⟨x, ex, hi⟩
    cases ex
    have hv := hi.lst (hs1 _ _ (Im_upd (hP.ne hl)))
    obtain ⟨z, rfl, hz⟩ : ∃ z, v = .str z ∧ Lets z := by
      simp only [List.mem_cons, List.not_mem_nil, or_false] at hv
      rcases hv with rfl | rfl | rfl | rfl
      · exact ⟨_, rfl, lets_of (by decide +kernel)⟩
      · exact ⟨_, rfl, lets_of (by decide +kernel)⟩
      · exact ⟨_, rfl, lets_of (by decide +kernel)⟩
      · exact ⟨_, rfl, lets_of (by decide +kernel)⟩
    have hs1' : Same (Im H p) (Im H1 p) := (Same.updI hl).trans hs1
    refine ⟨rfl, _, rfl, by show 6 ≤ sizeLine; decide, fun l2 hl2 => ?_⟩
    refine ⟨p, c, n + 1, _, rfl, hP1.upd hl2, by omega, ⟨_, rfl, Or.inl ⟨l2, _, rfl, Or.inl (Im_upd (hP1.ne hl2)), by simp, by show 6 ≤ 100000; decide⟩⟩, ?_⟩
    rintro v H2 hP2 hs2 ⟨x, ex, hi⟩
    cases ex
    have hv := hi.lst (hs2 _ _ (Im_upd (hP1.ne hl2)))
    obtain ⟨j, rfl, hj1, hj8⟩ : ∃ j : Nat, v = .int (j : Int) ∧ 1 ≤ j ∧ j ≤ 8 := by
      simp only [List.mem_cons, List.not_mem_nil, or_false] at hv
      rcases hv with rfl | rfl | rfl | rfl | rfl | rfl
      · exact ⟨1, rfl, by omega, by omega⟩
      · exact ⟨1, rfl, by omega, by omega⟩
      · exact ⟨2, rfl, by omega, by omega⟩
      · exact ⟨3, rfl, by omega, by omega⟩
      · exact ⟨5, rfl, by omega, by omega⟩
      · exact ⟨8, rfl, by omega, by omega⟩
    have hs2' : Same (Im H p) (Im H2 p) := hs1'.trans ((Same.updI hl2).trans hs2)
    refine ⟨_, rfl, by omega, by omega, fun D hD => ?_⟩
    rw [Int.toNat_natCast]
    have nD : D ≠ p := hP2.ne hD
    have nC : D ≠ c := hP2.neC hD
    refine lc_range (fun i H' => PenAt H' p c (n + 2 + i) ∧ Same (Im H2 p) (Im H' p) ∧ ∃ cs : List Nat, cs.length = i ∧ H' D = some (.lst (cs.map fun c => .str ⟨#[c]⟩)) ∧ ∀ c ∈ cs, 97 ≤ c ∧ c ≤ 122)
      ⟨hP2.upd hD, Same.updI hD, [], rfl, upd_same, fun _ h => nomatch h⟩ ?_ ?_
    · rintro i H' hi ⟨hP', hs', cs, hcl, hcD, hcs⟩
      refine ⟨rfl, tYes_go ?_⟩
      refine ⟨_, rfl, _, rfl, p, c, n + 2 + i, _, rfl, hP', by omega, ⟨_, rfl, Or.inr ⟨z, rfl, hz.1, hz.2.1⟩⟩, ?_⟩
      rintro v H3 hP3 hs3 ⟨x, ex, hi3⟩
      cases ex
      obtain ⟨cc, hc, rfl⟩ := hi3.str
      have hD3 : H3 D = _ := same_at hs3 hcD nD
      refine ⟨_, hD3, by rw [List.length_map, hcl]; exact Nat.lt_of_lt_of_le hi (Nat.le_trans hj8 (by decide)), ?_, ?_, cs ++ [cc], by simp [hcl], by rw [upd_same, List.map_append]; rfl, ?_⟩
      · exact (show n + 2 + i + 1 = n + 2 + (i + 1) by omega) ▸ hP3.put nD nC
      · exact samePut (hs'.trans hs3) hD
      · intro x hx
        rcases List.mem_append.mp hx with hx | hx
        · exact hcs x hx
        · rw [List.mem_singleton] at hx
          rw [hx]
          exact hz.2.2 _ hc
    · rintro H' ⟨hP', hs', cs, hcl, hcD, hcs⟩
      refine ⟨_, D, cs.map fun c => ⟨#[c]⟩, rfl, rfl, Or.inl (SqL.of (by rw [List.map_map]; exact hcD)), ?_, ?_⟩
      · have e1 : ((cs.map fun c => (⟨#[c]⟩ : Str)).map (·.length)).sum = cs.length := by
          rw [List.map_map]
          clear hcD hcs hcl
          induction cs with
          | nil => rfl
          | cons a b ih => rw [List.map_cons, List.sum_cons, ih]; show 1 + b.length = b.length + 1; omega
        rw [e1, List.length_map, show (Str.ofString "").length = 0 from by decide +kernel]
        omega
      · rw [join_signs]
        exact q _ _ (hP'.mono (by omega)) (hs2'.trans hs') ⟨_, rfl, isW_signs (by omega) (by omega) hcs⟩
end
end L16

namespace L16
open PySem PySem.Spec PyProof.Rows L2 Kq
section
variable {P : Program} {w : World} {K : PySem.W.Frag} {mg : Str → Option Value} {base : Heap}
theorem ok_words {f : Addr} {fd : FuncData} (F : Fun K "_law_words" "_law_words" st_words f fd) (T : Txt K mg) (P_word : Prom P w K mg base 3 "_law_word" ps_word spWord) : FnOk P w K mg base CX0 4 f fd ps_words spWords := by
  refine F.ok sc_words (fun vs H Q E h => ?_) (fun cdv A outer s H vs Q E hr h => ?_)
  · obtain ⟨p, c, n, rest, rfl, _, _, ⟨m, rfl, _⟩, _⟩ := h
    rfl
  · obtain ⟨p, c, n, rest, rfl, hP, hn, ⟨m, rfl, hm0, hm1⟩, q⟩ := h
    refine ⟨_, (pss_cons (ps_setLc (i := 2) (own := [("_law_sign", 3)]) rfl sc_words.nd rfl rfl (sw_true rfl rfl rfl (by decide +kernel)) (pi_str pe_str) (blkOk_by (N := N_words) (sc := defScope st_words) (by decide +kernel)) (fun _ _ _ _ _ => (pg_name (i := 3) sc_words.nd rfl (by first | exact Or.inl rfl | exact Or.inr rfl))) (fun _ _ _ _ _ => pts_nil) (fun _ _ _ _ _ => (pv 3))) (pss_cons (ps_set (i := 4) sc_words.nd rfl (by first | exact Or.inl rfl | exact Or.inr rfl) (pe_op (opAddP (K := K)) (pv 2) (pe_lc (own := [("_law_sign", 3)]) rfl sc_words.nd (pi_listP (K := K) (pv 2)) (blkOk_by (N := N_words) (sc := defScope st_words) (by decide +kernel)) (fun _ _ _ _ _ => (pg_name (i := 3) sc_words.nd rfl (by first | exact Or.inl rfl | exact Or.inr rfl))) (fun _ _ _ _ _ => pts_nil) (fun _ _ _ _ _ => (pe_op (opAddP (K := K)) pe_str (pv 3)))))) (pss_cons (ps_set (i := 5) sc_words.nd rfl (by first | exact Or.inl rfl | exact Or.inr rfl) (pe_lst pa_nil)) (pss_cons (ps_for PassesOwn.never rfl (pi_range1 rfl T.n_range (pa_cons (pv 1) pa_nil)) (pg_name (i := 6) sc_words.nd rfl (by first | exact Or.inl rfl | exact Or.inr rfl)) (pss_cons (ps_set (i := 7) sc_words.nd rfl (by first | exact Or.inl rfl | exact Or.inr rfl) (pe_p P_word hr (by decide) (pa_cons (pv 0) pa_nil))) (C8.pss_cut (ps_if (pt_cmpR (opInP (K := K)) (pv 7) (pv 5) (by first | exact nomark _ | rfl)) (pss_one (ps_set (i := 7) sc_words.nd rfl (by first | exact Or.inl rfl | exact Or.inr rfl) (pe_ix (ixP (K := K)) (pe_lc (own := [("_law_each", 8)]) rfl sc_words.nd (pi_listP (K := K) (pv 4)) (blkOk_by (N := N_words) (sc := defScope st_words) (by decide +kernel)) (fun _ _ _ _ _ => (pg_name (i := 8) sc_words.nd rfl (by first | exact Or.inl rfl | exact Or.inr rfl))) (fun _ _ _ _ _ => (pts_one (pt_cmpR (opNinP (K := K)) (pv 8) (pv 5) (by first | exact nomark _ | rfl)))) (fun _ _ _ _ _ => (pv 8))) pe_int (fun _ _ => rfl)))) pss_nil) (pss_one (ps_expr (pe_bm PySem.F.plainAttrs_list PySem.F.slot_list_append PySem.F.type_list_append mt_append (pv 5) (pa_cons (pv 7) pa_nil))))))) (pss_one (ps_ret (pv 5))))))), ?_⟩
    generalize hz : (Str.ofString "abcdefghijklmnopqrstuvwxyz" : Str) = z
    have hzl : z.cps.size = 26 := by rw [← hz]; decide +kernel
    refine ⟨z, by rw [← hz], fun L hL => ?_⟩
    have nL := hP.ne hL
    refine lc_it walk_str (fun i H' => Same H H' ∧ H' L = some (.lst (((signsOf z).take i).map V.str))) ⟨Same.upd hL, upd_same⟩ (fun _ _ _ _ => trivial) ?_ ?_
    · rintro i x H1 H' hi ⟨s1, h1⟩ ⟨rfl, cc, hc, rfl⟩
      refine ⟨rfl, tYes_go ?_⟩
      refine ⟨_, rfl, _, h1, by rw [List.length_map, List.length_take, signsOf_len]; exact Nat.lt_of_le_of_lt (Nat.min_le_right ..) (by rw [hzl]; decide), sput s1 hL, ?_⟩
      rw [upd_same, take_succ' (signsOf_get hc), List.map_append]
      rfl
    rintro H1 ⟨s1, h1⟩
    rw [← signsOf_len, take_all] at h1
    -- the spare words
    refine ⟨_, rfl, _, rfl, L, rfl, ⟨_, SqL.of h1⟩, fun B hB => ?_⟩
    generalize hq : (Str.ofString "q" : Str) = qq
    refine lc_it walk_list (fun i H' => Same H1 H' ∧ H' B = some (.lst ((((signsOf z).map fun s => qq ++ s).take i).map V.str))) ⟨Same.upd hB, upd_same⟩ (fun _ _ _ h => SqL.of (h.1 _ _ h1)) ?_ ?_
    · rintro i x H2 H' hi ⟨s2, h2⟩ ⟨rfl, hx⟩
      obtain ⟨y, hy, rfl⟩ := get_map_str hx
      have hyl : y.length = 1 := by
        have := List.mem_of_getElem? hy
        unfold signsOf at this
        obtain ⟨c', _, rfl⟩ := List.mem_map.mp this
        rfl
      refine ⟨rfl, tYes_go ?_⟩
      refine ⟨_, rfl, Or.inr (Or.inl ⟨qq, y, by rw [← hq], rfl, by rw [hyl, ← hq]; decide, ?_⟩)⟩
      refine ⟨_, h2, by rw [List.length_map, List.length_take, List.length_map, signsOf_len, hzl]; exact Nat.lt_of_le_of_lt (Nat.min_le_right ..) (by decide), sput s2 hB, ?_⟩
      rw [upd_same, take_succ' (x := qq ++ y) (by rw [List.getElem?_map, hy]; rfl), List.map_append]
      rfl
    rintro H2 ⟨s2, h2⟩
    rw [List.length_map, show (signsOf z).length = ((signsOf z).map fun s => qq ++ s).length from (List.length_map _).symm, take_all] at h2
    have hsp : spareOf z qq = spareOf (Str.ofString "abcdefghijklmnopqrstuvwxyz") (Str.ofString "q") := by rw [hz, hq]
    have spn : (spareOf z qq).Nodup := hsp ▸ spare_nodup
    have spl : (spareOf z qq).length = 52 := hsp ▸ spare_len
    have spw : ∀ s ∈ spareOf z qq, IsW s := hsp ▸ spare_isW
    refine Or.inr (Or.inr (Or.inl ⟨L, B, _, _, rfl, rfl, s2 _ _ h1, h2, by rw [List.length_map, List.length_map, List.length_map, signsOf_len, hzl]; decide, fun S hS => ?_⟩))
    rw [map_strs]
    have e : signsOf z ++ (signsOf z).map (fun s => qq ++ s) = spareOf z qq := rfl
    rw [e]
    have s3 : Same H (upd H2 S (.lst ((spareOf z qq).map V.str))) := (s1.trans s2).trans (Same.upd hS)
    have h3 : (upd H2 S (.lst ((spareOf z qq).map V.str))) S = some (.lst ((spareOf z qq).map V.str)) := upd_same
    have nS : S ≠ p := (hP.same (s1.trans s2)).ne hS
    generalize upd H2 S (.lst ((spareOf z qq).map V.str)) = H3 at s3 h3 ⊢
    refine ⟨Nat.zero_le _, fun F hF => ?_⟩
    have hP3 := hP.same s3
    have nF := hP3.ne hF
    have nFC := hP3.neC hF
    have nSF : S ≠ F := ne_of_none h3 hF
    obtain ⟨M, rfl⟩ := Int.eq_ofNat_of_zero_le hm0
    refine ⟨_, rfl, _, rfl, by omega, by omega, ?_⟩
    rw [Int.toNat_natCast]
    refine for_range (fun i σ' H' => PenAt H' p c (n + 10 * i) ∧ Same (Im H3 p) (Im H' p) ∧ (∃ ws : List Str, ws.length = i ∧ H' F = some (.lst (ws.map V.str)) ∧ ws.Nodup ∧ ∀ s ∈ ws, IsW s) ∧
      ∃ x3 x6 x7 x8, σ' = [some (.ref p), some (.int M), some (.ref L), x3, some (.ref S), some (.ref F), x6, x7, x8])
      ⟨hP3.upd hF, Same.updI hF, ⟨[], rfl, upd_same, List.nodup_nil, fun _ h => nomatch h⟩, _, _, _, _, rfl⟩ ?_ ?_
    · rintro i σ' H4 hi ⟨hP4, s4, ⟨ws, hwl, hwF, hwn, hww⟩, x3, x6, x7, x8, rfl⟩
      refine ⟨_, rfl, p, c, n + 10 * i, [], rfl, hP4, by omega, rfl, ?_⟩
      rintro v H5 hP5 s5 ⟨u, rfl, hu⟩
      have hF5 := same_at s5 hwF nF
      have s35 := s4.trans s5
      refine ⟨fun σ5 H6 => Same H5 H6 ∧ ∃ u' x8', u' ∉ ws ∧ IsW u' ∧ σ5 = [some (.ref p), some (.int M), some (.ref L), x3, some (.ref S), some (.ref F), some (.int (0 + i)), some (.str u'), x8'], ?_, ?_⟩
      · refine ⟨_, rfl, _, rfl, Or.inl ⟨F, _, rfl, Or.inl (SqL.of hF5), rfl, flat_strs _, _, rfl, ?_⟩⟩
        refine ite2 (fun hc => ?_) (fun hc => ?_)
        · have hS5 := same_at s35 h3 nS
          refine ⟨_, rfl, S, rfl, ⟨_, SqL.of hS5⟩, fun D hD => ?_⟩
          refine lc_it walk_list (fun j H' => Same H5 H' ∧ H' D = some (.lst ((((spareOf z qq).take j).filter fun x => !decide (x ∈ ws)).map V.str))) ⟨Same.upd hD, upd_same⟩ (fun _ _ _ h => SqL.of (h.1 _ _ hS5)) ?_ ?_
          · rintro j x H6 H' hj ⟨s6, h6⟩ ⟨rfl, hx⟩
            obtain ⟨y, hy, rfl⟩ := get_map_str hx
            refine ⟨rfl, ?_⟩
            refine ⟨_, rfl, _, rfl, Or.inl ⟨F, _, rfl, Or.inl (SqL.of (s6 _ _ hF5)), rfl, flat_strs _, _, rfl, ?_⟩⟩
            refine ite2 (fun hy2 => ?_) (fun hy2 => ?_)
            · have hy3 : y ∉ ws := by simpa [inV_strs] using hy2
              refine ⟨_, rfl, _, h6, ?_, sput s6 hD, ?_⟩
              · rw [List.length_map]
                exact Nat.lt_of_le_of_lt (Nat.le_trans (List.length_filter_le ..) (by rw [List.length_take, spl]; exact Nat.min_le_right ..)) (by decide)
              · rw [upd_same, take_succ' hy, List.filter_append]
                simp [hy3]
            · have hy3 : y ∈ ws := by simpa [inV_strs] using hy2
              refine ⟨s6, ?_⟩
              rw [h6, take_succ' hy, List.filter_append]
              simp [hy3]
          · rintro H6 ⟨s6, h6⟩
            rw [List.length_map, take_all] at h6
            obtain ⟨y, hy, hym⟩ := at0 (spare_left (ws := ws) spn (by rw [spl]; omega))
            have hym' := List.mem_filter.mp hym
            refine Or.inl ⟨D, _, _, _, rfl, rfl, SqL.of h6, atI_nat (v := .str y) (by rw [List.getElem?_map, hy]; rfl), ?_⟩
            exact ⟨s6, y, _, by simpa using hym'.2, spw y hym'.1, rfl⟩
        · have hmem : u ∉ ws := by simpa [inV_strs] using hc
          exact ⟨fun _ _ e => e, u, _, hmem, hu, rfl⟩
      rintro σ5 H6 ⟨s6, u', x8', hun, huw, rfl⟩
      refine ⟨_, rfl, Or.inl ⟨rfl, _, SqL.of (s6 _ _ hF5)⟩, _, rfl, F, _, _, rfl, rfl, s6 _ _ hF5, by rw [List.length_map]; exact Nat.lt_of_le_of_lt (show ws.length ≤ 52 by omega) (by decide), ?_⟩
      refine ⟨?_, ?_, ⟨ws ++ [u'], by simp [hwl], by rw [upd_same, List.map_append]; rfl, nodup_snoc hwn hun, ?_⟩, _, _, _, _, rfl⟩
      · exact ((hP5.mono (show n + 10 * i + 10 ≤ n + 10 * (i + 1) by omega)).same s6).put nF nFC
      · exact samePut (s35.trans (sameIm s6)) hF
      · intro x hx
        rcases List.mem_append.mp hx with hx | hx
        · exact hww x hx
        · rw [List.mem_singleton] at hx
          rw [hx]
          exact huw
    · rintro σ' H4 ⟨hP4, s4, ⟨ws, hwl, hwF, hwn, hww⟩, x3, x6, x7, x8, rfl⟩
      refine ⟨_, rfl, ?_⟩
      exact q _ _ (hP4.mono (by omega)) ((sameIm s3).trans s4) ⟨_, F, ws, rfl, rfl, Im_of hwF nF, by rw [hwl], hwn, hww⟩
end
end L16

namespace L16
open PySem PySem.Spec PyProof.Rows L2 Kq
section
variable {P : Program} {w : World} {K : PySem.W.Frag} {mg : Str → Option Value} {base : Heap}
/-- a value of new objects alone -/
def spVal : Sp := fun vs H Q _ => ∃ (p c : Addr) (n : Nat), vs = [.ref p] ∧ PenAt H p c n ∧ n + 1 ≤ 4194304 ∧
  ∀ v H' h d, PenAt H' p c (n + 1) → Same (Im H p) (Im H' p) → Same h (Im H' p) → (∀ b, H b ≠ none → h b = none) → Dq TB h v d → Sm d → Q v H'
def New (H h : Hp) : Hp := fun b => if (H b).isNone = true then h b else none
theorem New.sub {H h : Hp} : Same (New H h) h := fun b u e => by
  unfold New at e
  split at e
  · exact e
  · cases e
theorem New.not {H h : Hp} : ∀ b, H b ≠ none → New H h b = none := fun b hb => by
  unfold New
  rw [if_neg]
  simpa using hb
theorem New.of {H h : Hp} {a : Addr} {o : HO} (e : h a = some o) (hn : H a = none) : New H h a = some o := by
  unfold New
  rw [if_pos (by rw [hn]; rfl)]
  exact e
theorem sm_a : Sm (.str "a") := sm_str (by decide +kernel) (by decide +kernel)
theorem sm_ab : Sm (.str "a b") := sm_str (by decide +kernel) (by decide +kernel)
theorem sm_e : Sm (.str "") := sm_str (by decide +kernel) (by decide +kernel)
theorem sm_0 : Sm (.str "0") := sm_str (by decide +kernel) (by decide +kernel)
theorem sm_la : Sm (.list [.str "a"]) := ⟨by decide +kernel, by decide +kernel, by decide +kernel⟩
theorem sm_ta : Sm (.tuple [.str "a", .int 1]) := ⟨by decide +kernel, by decide +kernel, by decide +kernel⟩
theorem sm_da : Sm (tD TB) := ⟨by decide +kernel, by decide +kernel, by decide +kernel⟩
theorem sm_ll : Sm (.list [.list []]) := ⟨by decide +kernel, by decide +kernel, by decide +kernel⟩
abbrev a999 : Str := ⟨(List.replicate 999 (Str.ofString "a").cps.toList).flatten.toArray⟩
theorem sm_a999 : Sm (.str a999) := sm_str (by decide +kernel) (by decide +kernel)
abbrev menu (l1 l2 l3 l5 : Addr) : List V := [.non, .bl true, .bl false, .int 0, .int 1, .int 2, .int (-7), .int (10 ^ Int.toNat 39), .str "", .str "a b", .str "0", .ref l1, .ref l2, .ref l3, .ref l5, .str a999]
theorem val_fin {H G : Hp} {p c : Addr} {n : Nat} {l1 l2 l3 l4 l5 l6 : Addr} {Q : VK} (hP : PenAt H p c n) (hn : n + 1 ≤ 4194304) (sG : Same H G) (k1 : G l1 = some (.lst [.str "a"])) (k2 : G l2 = some (.tup [.str "a", .int 1])) (k3 : G l3 = some (.dK TB))
    (k4 : G l4 = some (.lst [])) (k5 : G l5 = some (.lst [.ref l4])) (k6 : G l6 = some (.lst (menu l1 l2 l3 l5))) (n1 : l1 ≠ p) (n2 : l2 ≠ p) (n3 : l3 ≠ p) (n4 : l4 ≠ p) (n5 : l5 ≠ p) (n6 : l6 ≠ p) (f1 : H l1 = none) (f2 : H l2 = none) (f3 : H l3 = none) (f4 : H l4 = none) (f5 : H l5 = none)
    (q : ∀ v H' h d, PenAt H' p c (n + 1) → Same (Im H p) (Im H' p) → Same h (Im H' p) → (∀ b, H b ≠ none → h b = none) → Dq TB h v d → Sm d → Q v H') : spC spPick [.ref p, .ref l6] G Q := by
  refine ⟨p, c, n, _, rfl, hP.same sG, hn, ⟨_, rfl, Or.inl ⟨l6, _, rfl, Or.inl (Im_of k6 n6), by simp, by show 16 ≤ 100000; decide⟩⟩, ?_⟩
  rintro v H' hP' hs ⟨x, ex, hi⟩
  cases ex
  have hv := hi.lst (hs _ _ (Im_of k6 n6))
  suffices ∃ d, Dq TB (New H (Im H' p)) v d ∧ Sm d by
    obtain ⟨d, h1, h2⟩ := this
    exact q _ _ _ _ hP' ((sameIm sG).trans hs) New.sub New.not h1 h2
  have g1 := New.of (hs _ _ (Im_of k1 n1)) f1
  have g2 := New.of (hs _ _ (Im_of k2 n2)) f2
  have g3 := New.of (hs _ _ (Im_of k3 n3)) f3
  have g4 := New.of (hs _ _ (Im_of k4 n4)) f4
  have g5 := New.of (hs _ _ (Im_of k5 n5)) f5
  simp only [menu, List.mem_cons, List.not_mem_nil, or_false] at hv
  rcases hv with rfl | rfl | rfl | rfl | rfl | rfl | rfl | rfl | rfl | rfl | rfl | rfl | rfl | rfl | rfl | rfl
  · exact ⟨_, .non, sm_none⟩
  · exact ⟨_, .bl _, sm_bool _⟩
  · exact ⟨_, .bl _, sm_bool _⟩
  · exact ⟨_, .int _, sm_int (by decide)⟩
  · exact ⟨_, .int _, sm_int (by decide)⟩
  · exact ⟨_, .int _, sm_int (by decide)⟩
  · exact ⟨_, .int _, sm_int (by decide)⟩
  · exact ⟨_, .int _, sm_int (by decide)⟩
  · exact ⟨_, .str _, sm_e⟩
  · exact ⟨_, .str _, sm_ab⟩
  · exact ⟨_, .str _, sm_0⟩
  · exact ⟨_, .lst g1 (.cons (.str _) .nil), sm_la⟩
  · exact ⟨_, .tup g2 (.cons (.str _) (.cons (.int _) .nil)), sm_ta⟩
  · exact ⟨_, .dct g3, sm_da⟩
  · exact ⟨_, .lst g5 (.cons (.lst g4 .nil) .nil), sm_ll⟩
  · exact ⟨_, .str _, sm_a999⟩
theorem ok_value {f : Addr} {fd : FuncData} (F : Fun K "_law_value" "_law_value" st_value f fd) (T : Txt K mg) (P_pick : Prom P w K mg base 2 "_law_pick" ps_pick spPick) : FnOk P w K mg base CX0 3 f fd ps_value spVal := by
  refine F.ok sc_value (fun vs H Q E h => ?_) (fun cdv A outer s H vs Q E hr h => ?_)
  · obtain ⟨p, c, n, rfl, _⟩ := h
    rfl
  · obtain ⟨p, c, n, rfl, hP, hn, q⟩ := h
    refine ⟨_, (pss_cons (ps_set (i := 1) sc_value.nd rfl (by first | exact Or.inl rfl | exact Or.inr rfl) (pe_lst (pa_cons pe_non (pa_cons pe_bl (pa_cons pe_bl (pa_cons pe_int (pa_cons pe_int (pa_cons pe_int (pa_cons (pe_un opNeg pe_int) (pa_cons (pe_op op_pow pe_int pe_int) (pa_cons pe_str (pa_cons pe_str (pa_cons pe_str (pa_cons (pe_lst (pa_cons pe_str pa_nil)) (pa_cons (pe_tup (pa_cons pe_str (pa_cons pe_int pa_nil))) (pa_cons (pe_disp (pps_cons pe_str pe_non pps_nil) rfl rfl (fun z => nomatch z) (by decide)) (pa_cons (pe_lst (pa_cons (pe_lst pa_nil) pa_nil)) (pa_cons (pe_op opMulP pe_str pe_int) pa_nil)))))))))))))))))) (pss_one (ps_ret (pe_p P_pick hr (by decide) (pa_cons (pv 0) (pa_cons (pv 1) pa_nil)))))), ?_⟩
    refine ⟨_, rfl, _, _, rfl, rfl, ⟨by decide, by decide, by decide⟩, ?_⟩
    refine ⟨by show 1 ≤ sizeLine; decide, fun l1 h1 => ?_⟩
    refine ⟨by show 2 ≤ sizeLine; decide, fun l2 h2 => ?_⟩
    intro l3 h3
    refine ⟨upd_same, [(.inr "a", .non)], rfl, by decide, ?_⟩
    refine ⟨Nat.zero_le _, fun l4 h4 => ⟨by show 1 ≤ sizeLine; decide, fun l5 h5 => ?_⟩⟩
    refine Or.inr (Or.inl ⟨_, 999, rfl, rfl, by decide +kernel, by decide, ?_⟩)
    refine ⟨by show 16 ≤ sizeLine; decide, fun l6 h6 => ?_⟩
    have s1 : Same H _ := Same.upd (o := .lst [.str "a"]) h1
    have s2 := Same.upd (o := .tup [.str "a", .int 1]) h2
    have s3 := sput (o := .dK (mergeK [] [(.inr "a", .non)])) (Same.upd (o := .dK []) h3) h3
    have s4 := Same.upd (o := .lst []) h4
    have s5 := Same.upd (o := .lst [.ref l4]) h5
    have t2 := s1.trans s2
    have t3 := t2.trans s3
    have t4 := t3.trans s4
    have t5 := t4.trans s5
    have s6 : ∀ {o : HO}, Same _ (upd _ l6 o) := Same.upd h6
    refine ⟨_, rfl, _, rfl, ?_⟩
    exact val_fin hP hn (t5.trans s6) (s6 _ _ (s5 _ _ (s4 _ _ (s3 _ _ (s2 _ _ upd_same))))) (s6 _ _ (s5 _ _ (s4 _ _ (s3 _ _ upd_same)))) (s6 _ _ (s5 _ _ (s4 _ _ upd_same)))
      (s6 _ _ (s5 _ _ upd_same)) (s6 _ _ upd_same) upd_same (hP.ne h1) ((hP.same s1).ne h2) ((hP.same t2).ne h3) ((hP.same t3).ne h4) ((hP.same t4).ne h5) ((hP.same t5).ne h6) h1 (s1.free h2) (t2.free h3) (t3.free h4) (t4.free h5) q
end
end L16

namespace L16
open PySem PySem.Spec PyProof.Rows L2 Kq
section
variable {P : Program} {w : World} {K : PySem.W.Frag} {mg : Str → Option Value} {base : Heap}
/-! the class -/
def pfs (a b c d : V) : List (Str × V) := [("word", a), ("at", b), ("left", c), ("right", d)]
theorem pfs_put (a b c d : V) : putF "right" d (putF "left" c (putF "at" b (putF "word" a []))) = pfs a b c d := by
  first | rfl | kernel_rfl
theorem pfs_word (a b c d : V) : (pfs a b c d).lookup ("word" : Str) = some a := by first | rfl | kernel_rfl
theorem pfs_at (a b c d : V) : (pfs a b c d).lookup ("at" : Str) = some b := by first | rfl | kernel_rfl
theorem pfs_left (a b c d : V) : (pfs a b c d).lookup ("left" : Str) = some c := by first | rfl | kernel_rfl
theorem pfs_right (a b c d : V) : (pfs a b c d).lookup ("right" : Str) = some d := by first | rfl | kernel_rfl
structure PullC (K : PySem.W.Frag) (mg : Str → Option Value) (C : Addr) : Prop where
  cl : Cls K C
  c_Pull : mg "Pull" = some (.ref C)
  n1 : NoAttr K C "word"
  n2 : NoAttr K C "at"
  n3 : NoAttr K C "left"
  n4 : NoAttr K C "right"
  ha : PySem.W.findIn K (.ref C) "__class__" = some (some (.builtin "object.__class__"))
  hn : PySem.W.specialIn K (.builtin "object.__class__") "__get__" = some (some (.builtin "getset_descriptor.__get__"))
  htk : PySem.W.takesIn K (.builtin "object.__class__") = some true
  hm : PySem.W.mroIn K C (.type "object") = some true
  ct : PySem.W.typeIn K (.ref C) = some (.type "type")
theorem PullC.ck {C : Addr} (S : PullC K mg C) : ((PySem.W.clsIn K C).isSome && PySem.W.typeIn K (.ref C) == some (.type "type")) = true := by
  rw [S.ct]
  have h := S.hm
  unfold PySem.W.mroIn at h
  obtain ⟨cd, e, _⟩ := Option.bind_eq_some_iff.mp h
  rw [e]
  rfl
theorem PullC.kitC {C : Addr} : PySem.W.kitOne K (.ref C) (.ref C) = some true := by
  unfold PySem.W.kitOne
  simp
theorem PullC.kitT {C : Addr} (S : PullC K mg C) {t : String} (h : t ∈ ["NoneType", "bool", "int", "str", "list", "tuple", "dict"]) : PySem.W.kitOne K (.type t) (.ref C) = some false := by
  unfold PySem.W.kitOne PySem.W.kitCls
  rw [if_neg (by simp)]
  simp only
  rw [if_pos S.ck]
  have h1 := notFirst_ty K C h
  unfold PySem.W.notFirst at h1
  rw [Bool.or_eq_true, beq_iff_eq, beq_iff_eq] at h1
  rcases h1 with h1 | h1
  · cases h1
  · exact h1
theorem ty_std {H : Hp} {v : V} {d : PyData} (h : Dq TB H v d) : ∃ t : String, L2.TyOf K H v (.type t) ∧ t ∈ ["NoneType", "bool", "int", "str", "list", "tuple", "dict"] := by
  cases h with
  | non => exact ⟨_, .non, by simp⟩
  | bl b => exact ⟨_, .bl b, by simp⟩
  | int i => exact ⟨_, .int i, by simp⟩
  | str x => exact ⟨_, .str x, by simp⟩
  | lst e _ => exact ⟨_, .lst e, by simp⟩
  | tup e _ => exact ⟨_, .tup e, by simp⟩
  | dct e => exact ⟨_, .dK e, by simp⟩
/-- a pull stands at a, its four values read as ds -/
def PullAt (C : Addr) (H : Hp) (a : Addr) (vs : List V) : Prop := ∃ dx v1 v2 v3 v4, vs = [v1, v2, v3, v4] ∧ H a = some (.ins C dx (pfs v1 v2 v3 v4))
theorem dqs4 {H : Hp} {v1 v2 v3 v4 : V} {ds : List PyData} (h : Dqs TB H [v1, v2, v3, v4] ds) : ∃ d1 d2 d3 d4, ds = [d1, d2, d3, d4] ∧ Dq TB H v1 d1 ∧ Dq TB H v2 d2 ∧ Dq TB H v3 d3 ∧ Dq TB H v4 d4 := by
  cases h with
  | cons a1 h =>
    cases h with
    | cons a2 h =>
      cases h with
      | cons a3 h =>
        cases h with
        | cons a4 h =>
          cases h
          exact ⟨_, _, _, _, rfl, a1, a2, a3, a4⟩
theorem nrms4 {a b c d a' b' c' d' : PyData} (h : nrms [a, b, c, d] = nrms [a', b', c', d']) : nrm a = nrm a' ∧ nrm b = nrm b' ∧ nrm c = nrm c' ∧ nrm d = nrm d' := by
  simpa [nrms] using h
def spInit (C : Addr) : Sp := fun vs H Q _ => ∃ x dx v1 v2 v3 v4, vs = [.ref x, v1, v2, v3, v4] ∧ H x = some (.ins C dx []) ∧ ∀ H', H' x = some (.ins C dx (pfs v1 v2 v3 v4)) → (∀ b, b ≠ x → H' b = H b) → Q .non H'
theorem ok_init {C : Addr} {f : Addr} {fd : FuncData} (F : Fun K "__init__" "Pull.__init__" st_Pull_init f fd) (T : Txt K mg) (S : PullC K mg C) : FnOk P w K mg base CX0 1 f fd ps_Pull_init (spInit C) := by
  refine F.ok sc_Pull_init (fun vs H Q E h => ?_) (fun cdv A outer s H vs Q E hr h => ?_)
  · obtain ⟨x, dx, v1, v2, v3, v4, rfl, _⟩ := h
    rfl
  · obtain ⟨x, dx, v1, v2, v3, v4, rfl, hx, k⟩ := h
    refine ⟨_, (pss_cons (ps_fld (pv 0) (pv 1) rfl) (pss_cons (ps_fld (pv 0) (pv 2) rfl) (pss_cons (ps_fld (pv 0) (pv 3) rfl) (pss_one (ps_fld (pv 0) (pv 4) rfl))))), ?_⟩
    refine ⟨_, rfl, _, rfl, x, C, dx, _, rfl, hx, S.cl, S.n1, by decide, ?_⟩
    refine ⟨_, rfl, _, rfl, x, C, dx, _, rfl, upd_same, S.cl, S.n2, by show 1 < 1000; decide, ?_⟩
    refine ⟨_, rfl, _, rfl, x, C, dx, _, rfl, upd_same, S.cl, S.n3, by show 2 < 1000; decide, ?_⟩
    refine ⟨_, rfl, _, rfl, x, C, dx, _, rfl, upd_same, S.cl, S.n4, by show 3 < 1000; decide, ?_⟩
    refine k _ (by rw [upd_same, pfs_put]) (fun b hb => by rw [upd_ne hb, upd_ne hb, upd_ne hb, upd_ne hb])
def spEq (C : Addr) : Sp := fun vs H Q _ => ∃ a y us ds, vs = [.ref a, y] ∧ PullAt C H a us ∧ Dqs TB H us ds ∧ (∀ d ∈ ds, Sm d) ∧
  ((∃ b us' es, y = .ref b ∧ PullAt C H b us' ∧ Dqs TB H us' es ∧ ∀ r : Bool, (r = true ↔ nrms ds = nrms es) → Q (.bl r) H) ∨ (∃ d, Dq TB H y d ∧ Q (.bl false) H))
theorem ok_eq {C : Addr} {f : Addr} {fd : FuncData} (F : Fun K "__eq__" "Pull.__eq__" st_Pull_eq f fd) (T : Txt K mg) (S : PullC K mg C) : FnOk P w K mg base CX0 1 f fd ps_Pull_eq (spEq C) := by
  refine F.ok sc_Pull_eq (fun vs H Q E h => ?_) (fun cdv A outer s H vs Q E hr h => ?_)
  · obtain ⟨a, y, us, ds, rfl, _⟩ := h
    rfl
  · obtain ⟨a, y, us, ds, rfl, ⟨dx, v1, v2, v3, v4, rfl, ha⟩, hd, hs, k⟩ := h
    have hu := hr.units
    refine ⟨_, (pss_one (ps_ret (pe_and (pe_callB call_isi rfl T.n_isinstance (by decide +kernel) (pa_cons (pv 1) (pa_cons (pe_glob (v := .ref C) rfl S.c_Pull rfl) pa_nil))) (pe_and (pe_cmpR (opEqP tbF hu) (pe_fldP (K := K) (pv 0) rfl) (pe_fldP (K := K) (pv 1) rfl) (by first | exact nomark _ | rfl)) (pe_and (pe_cmpR (opEqP tbF hu) (pe_fldP (K := K) (pv 0) rfl) (pe_fldP (K := K) (pv 1) rfl) (by first | exact nomark _ | rfl)) (pe_and (pe_cmpR (opEqP tbF hu) (pe_fldP (K := K) (pv 0) rfl) (pe_fldP (K := K) (pv 1) rfl) (by first | exact nomark _ | rfl)) (pe_one (pe_cmpR (opEqP tbF hu) (pe_fldP (K := K) (pv 0) rfl) (pe_fldP (K := K) (pv 1) rfl) (by first | exact nomark _ | rfl))))))))), ?_⟩
    obtain ⟨d1, d2, d3, d4, rfl, q1, q2, q3, q4⟩ := dqs4 hd
    have tyI : ∀ {b dx us}, H b = some (HO.ins C dx us) → TyX K H (.ref b) (.ref C) := fun e => .base (.ins e S.cl S.ha S.hn S.htk S.hm)
    rcases k with ⟨b, us', es, rfl, ⟨dx', w1, w2, w3, w4, rfl, hb⟩, he, k⟩ | ⟨d, hy, k⟩
    · obtain ⟨e1, e2, e3, e4, rfl, p1, p2, p3, p4⟩ := dqs4 he
      have dep : ∀ d ∈ [d1, d2, d3, d4], d.depth ≤ 60 := fun d hd => by have := (hs d hd).dp; omega
      refine ⟨_, rfl, _, _, _, _, true, rfl, .own C, tyI hb, PullC.kitC, true, rfl, iteT ?_⟩
      refine ⟨_, rfl, a, C, dx, _, _, rfl, ha, S.cl, S.n1, pfs_word .., _, rfl, b, C, dx', _, _, rfl, hb, S.cl, S.n1, pfs_word .., Or.inr ⟨d1, e1, q1, p1, dep _ (by simp), fun r1 h1 => ⟨r1, rfl, ?_⟩⟩⟩
      refine ite2 (fun c1 => ?_) (fun c1 => k _ ⟨fun z => Bool.noConfusion z, fun z => absurd (h1.mpr (nrms4 z).1) (by simpa using c1)⟩)
      refine ⟨_, rfl, a, C, dx, _, _, rfl, ha, S.cl, S.n2, pfs_at .., _, rfl, b, C, dx', _, _, rfl, hb, S.cl, S.n2, pfs_at .., Or.inr ⟨d2, e2, q2, p2, dep _ (by simp), fun r2 h2 => ⟨r2, rfl, ?_⟩⟩⟩
      refine ite2 (fun c2 => ?_) (fun c2 => k _ ⟨fun z => Bool.noConfusion z, fun z => absurd (h2.mpr (nrms4 z).2.1) (by simpa using c2)⟩)
      refine ⟨_, rfl, a, C, dx, _, _, rfl, ha, S.cl, S.n3, pfs_left .., _, rfl, b, C, dx', _, _, rfl, hb, S.cl, S.n3, pfs_left .., Or.inr ⟨d3, e3, q3, p3, dep _ (by simp), fun r3 h3 => ⟨r3, rfl, ?_⟩⟩⟩
      refine ite2 (fun c3 => ?_) (fun c3 => k _ ⟨fun z => Bool.noConfusion z, fun z => absurd (h3.mpr (nrms4 z).2.2.1) (by simpa using c3)⟩)
      refine ⟨_, rfl, a, C, dx, _, _, rfl, ha, S.cl, S.n4, pfs_right .., _, rfl, b, C, dx', _, _, rfl, hb, S.cl, S.n4, pfs_right .., Or.inr ⟨d4, e4, q4, p4, dep _ (by simp), fun r4 h4 => ?_⟩⟩
      refine k _ ⟨fun z => ?_, fun z => h4.mpr (nrms4 z).2.2.2⟩
      simp only [nrms, h1.mp c1, h2.mp c2, h3.mp c3, h4.mp z]
    · obtain ⟨t, ht, hm⟩ := ty_std (K := K) hy
      exact ⟨_, rfl, _, _, _, _, false, rfl, .own C, .base ht, S.kitT hm, false, rfl, iteF k⟩
theorem empty_app (a : Str) : Str.empty ++ a = a := by
  apply str_ext
  rw [str_app]
  rfl
/-- str of words and a number -/
abbrev pullText (w1 : Str) (i : Int) (w2 w3 : Str) : Str := w1 ++ " " ++ toString i ++ " " ++ w2 ++ " " ++ w3
def spStr (C : Addr) : Sp := fun vs H Q _ => ∃ a w1 i w2 w3, vs = [.ref a] ∧ PullAt C H a [.str w1, .int i, .str w2, .str w3] ∧ i.natAbs.log2 < 1920 ∧ w1.length ≤ 8 ∧ w2.length ≤ 8 ∧ w3.length ≤ 8 ∧ Q (.str (pullText w1 i w2 w3)) H
theorem ok_str {C : Addr} {f : Addr} {fd : FuncData} (F : Fun K "__str__" "Pull.__str__" st_Pull_str f fd) (T : Txt K mg) (S : PullC K mg C) : FnOk P w K mg base CX0 1 f fd ps_Pull_str (spStr C) := by
  refine F.ok sc_Pull_str (fun vs H Q E h => ?_) (fun cdv A outer s H vs Q E hr h => ?_)
  · obtain ⟨a, w1, i, w2, w3, rfl, _⟩ := h
    rfl
  · obtain ⟨a, w1, i, w2, w3, rfl, ⟨dx, v1, v2, v3, v4, e, ha⟩, hi, l1, l2, l3, k⟩ := h
    cases e
    refine ⟨_, (pss_one (ps_ret (pe_joined (PJ.cons (pe_fmt (pe_fldP (K := K) (pv 0) rfl)) (PJ.cons pe_str (PJ.cons (pe_fmt (pe_fldP (K := K) (pv 0) rfl)) (PJ.cons pe_str (PJ.cons (pe_fmt (pe_fldP (K := K) (pv 0) rfl)) (PJ.cons pe_str (PJ.cons (pe_fmt (pe_fldP (K := K) (pv 0) rfl)) PJ.nil)))))))))), ?_⟩
    have li := int_text_len_1921 hi
    have sz : (sizeLine : Nat) = 16777216 := sizeLine_eq
    have lb : (Str.ofString " ").length = 1 := by decide +kernel
    have e0 : Str.empty ++ w1 = w1 := empty_app w1
    refine ⟨_, rfl, a, C, dx, _, _, rfl, ha, S.cl, S.n1, pfs_word .., Or.inl ⟨w1, rfl, by omega, _, rfl, by rw [e0]; omega, ?_⟩⟩
    rw [e0]
    refine ⟨_, rfl, by rw [strLen_append]; omega, ?_⟩
    refine ⟨_, rfl, a, C, dx, _, _, rfl, ha, S.cl, S.n2, pfs_at .., Or.inr ⟨i, rfl, hi, _, rfl, by rw [strLen_append, strLen_append]; omega, ?_⟩⟩
    refine ⟨_, rfl, by rw [strLen_append, strLen_append, strLen_append]; omega, ?_⟩
    refine ⟨_, rfl, a, C, dx, _, _, rfl, ha, S.cl, S.n3, pfs_left .., Or.inl ⟨w2, rfl, by omega, _, rfl, by rw [strLen_append, strLen_append, strLen_append, strLen_append]; omega, ?_⟩⟩
    refine ⟨_, rfl, by rw [strLen_append, strLen_append, strLen_append, strLen_append, strLen_append]; omega, ?_⟩
    refine ⟨_, rfl, a, C, dx, _, _, rfl, ha, S.cl, S.n4, pfs_right .., Or.inl ⟨w3, rfl, by omega, _, rfl, by rw [strLen_append, strLen_append, strLen_append, strLen_append, strLen_append, strLen_append]; omega, ?_⟩⟩
    exact k
end
end L16

namespace L16
open PySem PySem.Spec PyProof.Rows L2 Kq
section
variable {P : Program} {w : World} {K : PySem.W.Frag} {mg : Str → Option Value} {base : Heap}
def gV2 (vs zs : List V) : List V := vs ++ zs.reverse
def spPull (K : PySem.W.Frag) (C : Addr) : Sp := fun vs H Q _ => ∃ s b us, vs = [.ref s, .bl b] ∧ H s = some (.lst us) ∧ us.length = 4 ∧ ∀ x H', H x = none → PullAt C H' x us → Same H H' → Q (.ref x) H'
theorem four {us : List V} (h : us.length = 4) : ∃ a b c d, us = [a, b, c, d] := by
  match us, h with
  | [a, b, c, d], _ => exact ⟨a, b, c, d, rfl⟩
theorem made_same {H H' : Hp} {x dx : Addr} {o o' : HO} (nx : H x = none) (ndx : H dx = none) (h : ∀ b, b ≠ x → H' b = (upd (upd H dx o) x o') b) : Same H H' := fun b u e => by
  rw [h b (ne_of_none e nx), upd_ne (ne_of_none e nx), upd_ne (ne_of_none e ndx)]
  exact e
theorem ok_pull {C : Addr} {f : Addr} {fd : FuncData} (F : Fun K "_law_pull" "_law_pull" st_pull f fd) (T : Txt K mg) (M_Pull : MkProm P w K mg base 1 "Pull" C ps_Pull_init (spInit C)) (M_Pull_right_left : MkKw P w K mg base 1 "Pull" C ps_Pull_init (spInit C) 2 ["right", "left"] gV2) :
    FnOk P w K mg base CX0 3 f fd ps_pull (spPull K C) := by
  refine F.ok sc_pull (fun vs H Q E h => ?_) (fun cdv A outer s H vs Q E hr h => ?_)
  · obtain ⟨s, b, us, rfl, _⟩ := h
    rfl
  · obtain ⟨s', b, us, rfl, hs, hl, k⟩ := h
    obtain ⟨v1, v2, v3, v4, rfl⟩ := four hl
    refine ⟨_, (pss_cons (ps_if (pt_truth (pv 1) (fun _ => rfl)) (pss_one (ps_ret (pe_mk M_Pull_right_left hr (by decide) (pa_cons (pe_ix (ixP (K := K)) (pv 0) pe_int (fun _ _ => rfl)) (pa_cons (pe_ix (ixP (K := K)) (pv 0) pe_int (fun _ _ => rfl)) pa_nil)) (pk_cons (pe_ix (ixP (K := K)) (pv 0) pe_int (fun _ _ => rfl)) (pk_cons (pe_ix (ixP (K := K)) (pv 0) pe_int (fun _ _ => rfl)) pk_nil))))) pss_nil) (pss_one (ps_ret (pe_m M_Pull hr (by decide) (pa_cons (pe_ix (ixP (K := K)) (pv 0) pe_int (fun _ _ => rfl)) (pa_cons (pe_ix (ixP (K := K)) (pv 0) pe_int (fun _ _ => rfl)) (pa_cons (pe_ix (ixP (K := K)) (pv 0) pe_int (fun _ _ => rfl)) (pa_cons (pe_ix (ixP (K := K)) (pv 0) pe_int (fun _ _ => rfl)) pa_nil)))))))), ?_⟩
    have a0 : atI [v1, v2, v3, v4] 0 = some v1 := rfl
    have a1 : atI [v1, v2, v3, v4] 1 = some v2 := rfl
    have a2 : atI [v1, v2, v3, v4] 2 = some v3 := rfl
    have a3 : atI [v1, v2, v3, v4] 3 = some v4 := rfl
    refine ⟨_, rfl, _, rfl, ?_⟩
    refine ite2 (fun _ => ?_) (fun _ => ?_)
    · refine ⟨_, rfl, Or.inl ⟨s', _, _, _, rfl, rfl, SqL.of hs, a0, ?_⟩⟩
      refine ⟨_, rfl, Or.inl ⟨s', _, _, _, rfl, rfl, SqL.of hs, a1, ?_⟩⟩
      refine ⟨_, rfl, Or.inl ⟨s', _, _, _, rfl, rfl, SqL.of hs, a3, ?_⟩⟩
      refine ⟨_, rfl, Or.inl ⟨s', _, _, _, rfl, rfl, SqL.of hs, a2, ?_⟩⟩
      refine ⟨rfl, rfl, fun x dx nx ndx ne => ?_⟩
      refine ⟨x, dx, v1, v2, v3, v4, rfl, upd_same, fun H' hx hb => ⟨rfl, ?_⟩⟩
      exact k x H' nx ⟨dx, _, _, _, _, rfl, hx⟩ (made_same nx ndx hb)
    · refine ⟨_, rfl, Or.inl ⟨s', _, _, _, rfl, rfl, SqL.of hs, a0, ?_⟩⟩
      refine ⟨_, rfl, Or.inl ⟨s', _, _, _, rfl, rfl, SqL.of hs, a1, ?_⟩⟩
      refine ⟨_, rfl, Or.inl ⟨s', _, _, _, rfl, rfl, SqL.of hs, a2, ?_⟩⟩
      refine ⟨_, rfl, Or.inl ⟨s', _, _, _, rfl, rfl, SqL.of hs, a3, ?_⟩⟩
      intro x dx nx ndx ne
      refine ⟨x, dx, v1, v2, v3, v4, rfl, upd_same, fun H' hx hb => ⟨rfl, ?_⟩⟩
      exact k x H' nx ⟨dx, _, _, _, _, rfl, hx⟩ (made_same nx ndx hb)
def spTold (C : Addr) : Sp := fun vs H Q _ => ∃ a us, vs = [.ref a] ∧ PullAt C H a us ∧ ∀ l, H l = none → Q (.ref l) (upd H l (.lst us))
theorem ok_told {C : Addr} {f : Addr} {fd : FuncData} (F : Fun K "_law_told" "_law_told" st_told f fd) (T : Txt K mg) (S : PullC K mg C) : FnOk P w K mg base CX0 1 f fd ps_told (spTold C) := by
  refine F.ok sc_told (fun vs H Q E h => ?_) (fun cdv A outer s H vs Q E hr h => ?_)
  · obtain ⟨a, us, rfl, _⟩ := h
    rfl
  · obtain ⟨a, us, rfl, ⟨dx, v1, v2, v3, v4, rfl, ha⟩, k⟩ := h
    refine ⟨_, (pss_one (ps_ret (pe_lst (pa_cons (pe_fldP (K := K) (pv 0) rfl) (pa_cons (pe_fldP (K := K) (pv 0) rfl) (pa_cons (pe_fldP (K := K) (pv 0) rfl) (pa_cons (pe_fldP (K := K) (pv 0) rfl) pa_nil))))))), ?_⟩
    refine ⟨_, rfl, a, C, dx, _, _, rfl, ha, S.cl, S.n1, pfs_word .., ?_⟩
    refine ⟨_, rfl, a, C, dx, _, _, rfl, ha, S.cl, S.n2, pfs_at .., ?_⟩
    refine ⟨_, rfl, a, C, dx, _, _, rfl, ha, S.cl, S.n3, pfs_left .., ?_⟩
    refine ⟨_, rfl, a, C, dx, _, _, rfl, ha, S.cl, S.n4, pfs_right .., ?_⟩
    exact ⟨by show 4 ≤ sizeLine; decide, k⟩
end
end L16

namespace L16
open PySem PySem.Spec PyProof.Rows L2 Kq
section
variable {P : Program} {w : World} {K : PySem.W.Frag} {mg : Str → Option Value} {base : Heap}
theorem ne_self (v : V) : (!decide (v = v)) = false := by simp
theorem PullAt.same {C : Addr} {H H' : Hp} {a : Addr} {vs : List V} (h : PullAt C H a vs) (s : Same H H') : PullAt C H' a vs := by
  obtain ⟨dx, v1, v2, v3, v4, e, ha⟩ := h
  exact ⟨dx, v1, v2, v3, v4, e, s _ _ ha⟩
def spRight (K : PySem.W.Frag) : Sp := fun vs H Q _ => ∃ s r b us ws ds es, vs = [.ref s, .ref r, .bl b] ∧ H s = some (.lst us) ∧ H r = some (.lst ws) ∧ us.length = 4 ∧ ws.length = 4 ∧ Dqs TB H us ds ∧ Dqs TB H ws es ∧ (∀ d ∈ ds, Sm d) ∧ (∀ d ∈ es, Sm d) ∧ ∀ H', Same H H' → Q (.bl true) H'
theorem ok_right {C : Addr} {f : Addr} {fd : FuncData} (F : Fun K "_law_right" "_law_right" st_right f fd) (T : Txt K mg) (S : PullC K mg C) (P_pull : Prom P w K mg base 3 "_law_pull" ps_pull (spPull K C)) (P_told : Prom P w K mg base 1 "_law_told" ps_told (spTold C))
    (P_eq : EqProm P w K mg base 1 C (spEq C)) (SY : ∃ o, base.get? sysModules = some o) : FnG P w K mg base CX0 4 f fd ps_right (spRight K) := by
  refine Kq.Fun.okN F sc_right (fun vs H Q E h => ?_) (fun cdv A outer s H vs Q E hgd hr h => ?_)
  · obtain ⟨s, r, b, us, ws, ds, es, rfl, _⟩ := h
    rfl
  · obtain ⟨s', r, b, us, ws, ds, es, rfl, hs, hr', lu, lw, qu, qw, su, sw, k⟩ := h
    have hu := hr.units
    have hds : ds.length = 4 := by rw [← qu.length, lu]
    have hes : es.length = 4 := by rw [← qw.length, lw]
    refine ⟨_, (pss_cons (ps_asg (pe_tup (pa_cons (pe_p P_pull hr (by decide) (pa_cons (pv 0) (pa_cons (pv 2) pa_nil))) (pa_cons (pe_p P_pull hr (by decide) (pa_cons (pv 1) (pa_cons pe_bl pa_nil))) pa_nil))) (pg_tup rfl (pgs_cons (pg_name (i := 3) sc_right.nd rfl (by first | exact Or.inl rfl | exact Or.inr rfl)) (pgs_cons (pg_name (i := 4) sc_right.nd rfl (by first | exact Or.inl rfl | exact Or.inr rfl)) pgs_nil)))) (pss_cons (ps_if (PW.pt (pw_or (pt_cmpR (opNeP (K := K) hu) (pe_callB (call_repr SY tbF hgd hu) rfl T.n_repr (by decide +kernel) (pa_cons (pe_p P_told hr (by decide) (pa_cons (pv 3) pa_nil)) pa_nil)) (pe_callB (call_repr SY tbF hgd hu) rfl T.n_repr (by decide +kernel) (pa_cons (pv 0) pa_nil)) (by first | exact nomark _ | rfl)) (pw_or1 (pt_cmpR (opNeP (K := K) hu) (pe_callB (call_repr SY tbF hgd hu) rfl T.n_repr (by decide +kernel) (pa_cons (pe_p P_told hr (by decide) (pa_cons (pv 4) pa_nil)) pa_nil)) (pe_callB (call_repr SY tbF hgd hu) rfl T.n_repr (by decide +kernel) (pa_cons (pv 1) pa_nil)) (by first | exact nomark _ | rfl))))) (pss_one (ps_ret pe_bl)) pss_nil) (pss_cons (ps_set (i := 5) sc_right.nd rfl (by first | exact Or.inl rfl | exact Or.inr rfl) (pe_cmpR (opEqP tbF hu) (pv 0) (pv 1) (by first | exact nomark _ | rfl))) (pss_cons (ps_if (pt_cmpR (opNeP (K := K) hu) (pe_callB (call_repr SY tbF hgd hu) rfl T.n_repr (by decide +kernel) (pa_cons (pe_lst (pa_cons (pe_cmpR (opOE P_eq hr (by decide) (K := K)) (pv 3) (pv 4) (by first | exact nomark _ | rfl)) (pa_cons (pe_cmpR (opOE P_eq hr (by decide) (K := K)) (pv 4) (pv 3) (by first | exact nomark _ | rfl)) (pa_cons (pe_cmpR (opON P_eq hr (by decide) (K := K)) (pv 3) (pv 4) (by first | exact nomark _ | rfl)) pa_nil)))) pa_nil)) (pe_callB (call_repr SY tbF hgd hu) rfl T.n_repr (by decide +kernel) (pa_cons (pe_lst (pa_cons (pv 5) (pa_cons (pv 5) (pa_cons (pe_not (pv 5)) pa_nil)))) pa_nil)) (by first | exact nomark _ | rfl)) (pss_one (ps_ret pe_bl)) pss_nil) (pss_one (ps_ret (pe_cmpR (opEqP tbF hu) (pe_lc (own := [("_law_each", 6)]) rfl sc_right.nd (pi_listP (K := K) (pe_lst (pa_cons (pv 0) (pa_cons (pe_callTy (callTupleP (K := K)) rfl T.n_tuple (by decide +kernel) (pa_cons (pv 0) pa_nil)) (pa_cons pe_non (pa_cons (pe_ix (ixP (K := K)) (pv 0) pe_int (fun _ _ => rfl)) (pa_cons pe_str pa_nil))))))) (blkOk_by (N := N_right) (sc := defScope st_right) (by decide +kernel)) (fun _ _ _ _ _ => (pg_name (i := 6) sc_right.nd rfl (by first | exact Or.inl rfl | exact Or.inr rfl))) (fun _ _ _ _ _ => (pts_one (PW.pt (pw_or (pt_cmpR (opOE P_eq hr (by decide) (K := K)) (pv 3) (pv 6) (by first | exact nomark _ | rfl)) (pw_or1 (pt_not (pt_cmpR (opON P_eq hr (by decide) (K := K)) (pv 3) (pv 6) (by first | exact nomark _ | rfl)))))))) (fun _ _ _ _ _ => (pv 6))) (pe_lst pa_nil) (by first | exact nomark _ | rfl)))))))), ?_⟩
    refine ⟨_, rfl, _, rfl, s', b, us, rfl, hs, lu, fun a H1 na pa s1 => ?_⟩
    refine ⟨_, rfl, r, false, ws, rfl, s1 _ _ hr', lw, fun c H2 nc pc s2 => ?_⟩
    refine ⟨by show 2 ≤ sizeLine; decide, fun tp ntp => ?_⟩
    have s3 : Same H2 (upd H2 tp (HO.tup [.ref a, .ref c])) := Same.upd ntp
    refine ⟨tp, _, rfl, SqT.of upd_same, rfl, _, _, rfl, _, _, rfl, rfl, ?_⟩
    generalize upd H2 tp (HO.tup [.ref a, .ref c]) = H3 at s3 ⊢
    have s13 := (s1.trans s2).trans s3
    have pa3 : PullAt C H3 a us := pa.same (s2.trans s3)
    have pc3 : PullAt C H3 c ws := pc.same s3
    have big1 := sm_list su (by omega)
    have big2 := sm_list sw (by omega)
    -- what each tells
    refine ⟨_, rfl, a, us, rfl, pa3, fun l1 h1 => ?_⟩
    have s4 : Same H3 (upd H3 l1 (.lst us)) := Same.upd h1
    refine ⟨_, l1, _, rfl, rfl, .lst upd_same ((qu.mono s13).mono s4), big1.1, big1.2.1, big1.2.2, ?_⟩
    refine ⟨_, rfl, _, s', _, rfl, rfl, .lst (s4 _ _ (s13 _ _ hs)) ((qu.mono s13).mono s4), big1.1, big1.2.1, big1.2.2, ?_⟩
    refine Or.inl ⟨rfl, _, rfl, ?_⟩
    rw [ne_self]
    refine iteF ?_
    have s5 := s13.trans s4
    refine ⟨_, rfl, c, ws, rfl, pc3.same s4, fun l2 h2 => ?_⟩
    have s6 := s5.trans (Same.upd (o := .lst ws) h2)
    refine ⟨_, l2, _, rfl, rfl, .lst upd_same (qw.mono s6), big2.1, big2.2.1, big2.2.2, ?_⟩
    refine ⟨_, rfl, _, r, _, rfl, rfl, .lst (s6 _ _ hr') (qw.mono s6), big2.1, big2.2.1, big2.2.2, ?_⟩
    refine Or.inl ⟨rfl, _, rfl, ?_⟩
    rw [ne_self]
    refine iteF ?_
    have pa4 := (pa3.same s4).same (Same.upd (o := .lst ws) h2)
    have pc4 := (pc3.same s4).same (Same.upd (o := .lst ws) h2)
    generalize upd (upd H3 l1 (.lst us)) l2 (.lst ws) = H4 at s6 pa4 pc4 ⊢
    -- what == says of the lists
    refine ⟨_, rfl, _, rfl, Or.inr ⟨.list ds, .list es, .lst (s6 _ _ hs) (qu.mono s6), .lst (s6 _ _ hr') (qw.mono s6), by have := big1.2.1; omega, fun b0 hb0 => ?_⟩⟩
    have hb0' : b0 = true ↔ nrms ds = nrms es := by rw [hb0]; simp [nrm]
    -- the three comparisons
    obtain ⟨dx, v1, v2, v3, v4, eu, ha⟩ := id pa4
    obtain ⟨dx', w1, w2, w3, w4, ew, hc⟩ := id pc4
    have qu4 := qu.mono s6
    have qw4 := qw.mono s6
    refine ⟨_, rfl, _, rfl, a, dx, _, .ref C, rfl, ha, .ins hc, notFirst_self K C, a, _, us, ds, rfl, pa4, qu4, su, Or.inl ⟨c, ws, es, rfl, pc4, qw4, fun r1 i1 => ⟨r1, rfl, ?_⟩⟩⟩
    refine ⟨_, rfl, _, rfl, c, dx', _, .ref C, rfl, hc, .ins ha, notFirst_self K C, c, _, ws, es, rfl, pc4, qw4, sw, Or.inl ⟨a, us, ds, rfl, pa4, qu4, fun r2 i2 => ⟨r2, rfl, ?_⟩⟩⟩
    refine ⟨_, rfl, _, rfl, a, dx, _, .ref C, rfl, ha, .ins hc, notFirst_self K C, a, _, us, ds, rfl, pa4, qu4, su, Or.inl ⟨c, ws, es, rfl, pc4, qw4, fun r3 i3 => ⟨r3, rfl, ?_⟩⟩⟩
    have e1 : r1 = b0 := Bool.eq_iff_iff.mpr (i1.trans hb0'.symm)
    have e2 : r2 = b0 := Bool.eq_iff_iff.mpr (i2.trans (eq_comm.trans hb0'.symm))
    have e3 : r3 = b0 := Bool.eq_iff_iff.mpr (i3.trans hb0'.symm)
    subst e1 e2 e3
    have big3 := fun b1 b2 b3 => sm_list (ds := [.bool b1, .bool b2, .bool b3]) (fun d hd => by
      simp only [List.mem_cons, List.not_mem_nil, or_false] at hd
      rcases hd with rfl | rfl | rfl <;> exact sm_bool _) (by show 3 ≤ 100; decide)
    refine ⟨by show 3 ≤ sizeLine; decide, fun l3 h3 => ?_⟩
    have s7 : Same H4 (upd H4 l3 (.lst [.bl r3, .bl r3, .bl (!r3)])) := Same.upd h3
    have h3' : (upd H4 l3 (.lst [.bl r3, .bl r3, .bl (!r3)])) l3 = _ := upd_same
    show (fun H5 => _) (upd H4 l3 (.lst [.bl r3, .bl r3, .bl (!r3)]))
    generalize upd H4 l3 (.lst [.bl r3, .bl r3, .bl (!r3)]) = H5 at s7 h3' ⊢
    refine ⟨_, l3, _, rfl, rfl, .lst h3' (.cons (.bl _) (.cons (.bl _) (.cons (.bl _) .nil))), (big3 _ _ _).1, (big3 _ _ _).2.1, (big3 _ _ _).2.2, ?_⟩
    refine ⟨_, rfl, _, rfl, _, rfl, _, rfl, by show 3 ≤ sizeLine; decide, fun l4 h4 => ?_⟩
    have s8 : Same H5 (upd H5 l4 (.lst [.bl r3, .bl r3, .bl (!r3)])) := Same.upd h4
    refine ⟨_, l4, _, rfl, rfl, .lst upd_same (.cons (.bl _) (.cons (.bl _) (.cons (.bl _) .nil))), (big3 _ _ _).1, (big3 _ _ _).2.1, (big3 _ _ _).2.2, ?_⟩
    refine Or.inl ⟨rfl, _, rfl, ?_⟩
    rw [ne_self]
    refine iteF ?_
    have s9 := (s6.trans s7).trans s8
    have s48 := s7.trans s8
    generalize upd H5 l4 (.lst [.bl r3, .bl r3, .bl (!r3)]) = H6 at s8 s9 s48 ⊢
    -- nothing else is equal to it
    refine ⟨_, rfl, _, rfl, s', us, rfl, Or.inl ⟨SqL.of (s9 _ _ hs), fun t ht => ?_⟩⟩
    have s10 : Same H6 (upd H6 t (.tup us)) := Same.upd ht
    have at0 : atI us 0 = some v1 := by rw [eu]; rfl
    refine ⟨_, rfl, Or.inl ⟨s', _, _, _, rfl, rfl, SqL.of (s10 _ _ (s9 _ _ hs)), at0, ?_⟩⟩
    refine ⟨by show 5 ≤ sizeLine; decide, fun l5 h5 => ?_⟩
    have s11 : Same H6 (upd (upd H6 t (.tup us)) l5 (.lst [.ref s', .ref t, .non, v1, .str "pull"])) := s10.trans (Same.upd h5)
    have ht' : (upd (upd H6 t (.tup us)) l5 (.lst [.ref s', .ref t, .non, v1, .str "pull"])) t = some (.tup us) := (Same.upd h5) _ _ upd_same
    have hl5 : (upd (upd H6 t (.tup us)) l5 (.lst [.ref s', .ref t, .non, v1, .str "pull"])) l5 = some (.lst [.ref s', .ref t, .non, v1, .str "pull"]) := upd_same
    generalize upd (upd H6 t (.tup us)) l5 (.lst [.ref s', .ref t, .non, v1, .str "pull"]) = H7 at s11 ht' hl5 ⊢
    have s07 := s9.trans s11
    have qu7 := qu.mono s07
    have all : ∀ x ∈ [V.ref s', .ref t, .non, v1, .str "pull"], ∃ d, Dq TB H7 x d := by
      intro x hx
      simp only [List.mem_cons, List.not_mem_nil, or_false] at hx
      rcases hx with rfl | rfl | rfl | rfl | rfl
      · exact ⟨_, .lst (s07 _ _ hs) qu7⟩
      · exact ⟨_, .tup ht' qu7⟩
      · exact ⟨_, .non⟩
      · rw [eu] at qu7
        obtain ⟨d1, d2, d3, d4, _, q1, _⟩ := dqs4 qu7
        exact ⟨_, q1⟩
      · exact ⟨_, .str _⟩
    refine ⟨l5, rfl, ⟨_, SqL.of hl5⟩, fun D hD => ?_⟩
    refine lc_it walk_list (fun _ H' => Same H7 H' ∧ H' D = some (.lst [])) ⟨Same.upd hD, upd_same⟩ (fun _ _ _ h => SqL.of (h.1 _ _ hl5)) ?_ ?_
    · rintro i x H8 H' hi ⟨s12, hD8⟩ ⟨rfl, hx⟩
      obtain ⟨d, hd⟩ := all x (List.mem_of_getElem? hx)
      obtain ⟨ty, hty, htm⟩ := (hd.mono s12).ty
      have sa : Same H4 H' := s48.trans (s11.trans s12)
      refine ⟨rfl, ?_⟩
      refine ⟨_, rfl, _, rfl, a, dx, _, .type ty, rfl, sa _ _ ha, hty, notFirst_ty K C htm, a, _, us, ds, rfl, pa4.same sa, qu4.mono sa, su, Or.inr ⟨d, hd.mono s12, false, rfl, _, rfl, ?_⟩⟩
      refine iteF ?_
      refine ⟨_, rfl, _, rfl, a, dx, _, .type ty, rfl, sa _ _ ha, hty, notFirst_ty K C htm, a, _, us, ds, rfl, pa4.same sa, qu4.mono sa, su, Or.inr ⟨d, hd.mono s12, false, rfl, _, rfl, ?_⟩⟩
      exact iteF ⟨s12, hD8⟩
    · rintro H8 ⟨s12, hD8⟩
      refine ⟨Nat.zero_le _, fun l6 h6 => ?_⟩
      refine Or.inr ⟨.list [], .list [], .lst (Same.upd h6 _ _ hD8) .nil, .lst upd_same .nil, by decide, fun b hb => ?_⟩
      have : b = true := hb.mpr rfl
      subst this
      exact k _ ((s07.trans s12).trans (Same.upd h6))
end
end L16

namespace L16
open PySem PySem.Spec PyProof.Rows L2 Kq
section
variable {P : Program} {w : World} {K : PySem.W.Frag} {mg : Str → Option Value} {base : Heap}
def spLaw (K : PySem.W.Frag) : Sp := fun vs H Q _ => ∃ (a : Addr) (ns : List Int), vs = [.ref a] ∧ SqL K H a (ns.map V.int) ∧ ns.length ≤ 63 ∧ ∀ H', Q (.bl true) H'
theorem ok_law {C : Addr} {f : Addr} {fd : FuncData} (F : Fun K "law" "law" st_law f fd) (T : Txt K mg) (S : PullC K mg C) (P_pen : Prom P w K mg base 1 "_law_pen" ps_pen (spPen K)) (P_draw : Prom P w K mg base 1 "_law_draw" ps_draw spDraw) (P_pick : Prom P w K mg base 2 "_law_pick" ps_pick spPick)
    (P_words : Prom P w K mg base 4 "_law_words" ps_words spWords) (P_value : Prom P w K mg base 3 "_law_value" ps_value spVal) (P_pull : Prom P w K mg base 3 "_law_pull" ps_pull (spPull K C)) (P_right : PromG P w K mg base 4 "_law_right" ps_right (spRight K)) (P_str : StrProm P w K mg base 1 C (spStr C)) : FnG P w K mg base CX0 5 f fd ps_law (spLaw K) := by
  refine Kq.Fun.okN F sc_law (fun vs H Q E h => ?_) (fun cdv A outer s H vs Q E hgd hr h => ?_)
  · obtain ⟨a, ns, rfl, _⟩ := h
    rfl
  · obtain ⟨a0, ns, rfl, hS, hl, k⟩ := h
    have hu := hr.units
    refine ⟨_, (pss_cons (ps_set (i := 1) sc_law.nd rfl (by first | exact Or.inl rfl | exact Or.inr rfl) (pe_p P_pen hr (by decide) (pa_cons (pv 0) pa_nil))) (pss_cons (ps_for PassesOwn.never rfl (pi_range1 rfl T.n_range (pa_cons pe_int pa_nil)) (pg_name (i := 2) sc_law.nd rfl (by first | exact Or.inl rfl | exact Or.inr rfl)) (pss_cons (ps_set (i := 3) sc_law.nd rfl (by first | exact Or.inl rfl | exact Or.inr rfl) (pe_p P_words hr (by decide) (pa_cons (pv 1) (pa_cons pe_int pa_nil)))) (pss_cons (ps_set (i := 4) sc_law.nd rfl (by first | exact Or.inl rfl | exact Or.inr rfl) (pe_p P_pick hr (by decide) (pa_cons (pv 1) (pa_cons (pe_lst (pa_cons pe_int (pa_cons pe_int (pa_cons pe_int (pa_cons (pe_p P_draw hr (by decide) (pa_cons (pv 1) (pa_cons (pe_op op_pow pe_int pe_int) pa_nil))) (pa_cons (pe_op op_pow pe_int pe_int) pa_nil)))))) pa_nil)))) (pss_cons (ps_set (i := 5) sc_law.nd rfl (by first | exact Or.inl rfl | exact Or.inr rfl) (pe_lst (pa_cons (pe_ix (ixP (K := K)) (pv 3) pe_int (fun _ _ => rfl)) (pa_cons (pv 4) (pa_cons (pe_ix (ixP (K := K)) (pv 3) pe_int (fun _ _ => rfl)) (pa_cons (pe_p P_pick hr (by decide) (pa_cons (pv 1) (pa_cons (pv 3) pa_nil))) pa_nil)))))) (pss_cons (ps_if (pt_cmpR (opNeP (K := K) hu) (pe_callTy (callSO P_str hr (by decide)) rfl T.n_str (by decide +kernel) (pa_cons (pe_p P_pull hr (by decide) (pa_cons (pv 5) (pa_cons (pe_cmpR (opEqP tbF hu) (pe_op op_mod (pv 2) pe_int) pe_int (by first | exact nomark _ | rfl)) pa_nil))) pa_nil)) (pe_op (opAddP (K := K)) (pe_op (opAddP (K := K)) (pe_op (opAddP (K := K)) (pe_op (opAddP (K := K)) (pe_op (opAddP (K := K)) (pe_op (opAddP (K := K)) (pe_ix (ixP (K := K)) (pv 5) pe_int (fun _ _ => rfl)) pe_str) (pe_callTy callStrP rfl T.n_str (by decide +kernel) (pa_cons (pv 4) pa_nil))) pe_str) (pe_ix (ixP (K := K)) (pv 5) pe_int (fun _ _ => rfl))) pe_str) (pe_ix (ixP (K := K)) (pv 5) pe_int (fun _ _ => rfl))) (by first | exact nomark _ | rfl)) (pss_one (ps_ret pe_bl)) pss_nil) (C8.pss_cut (ps_if (pt_cmpR (opEqP tbF hu) (pe_p P_draw hr (by decide) (pa_cons (pv 1) (pa_cons pe_int pa_nil))) pe_int (by first | exact nomark _ | rfl)) (pss_one (ps_setLc (i := 5) (own := [("_law_spot", 6)]) rfl sc_law.nd rfl rfl (sw_true rfl rfl rfl (by decide +kernel)) (pi_range1 rfl T.n_range (pa_cons pe_int pa_nil)) (blkOk_by (N := N_law) (sc := defScope st_law) (by decide +kernel)) (fun _ _ _ _ _ => (pg_name (i := 6) sc_law.nd rfl (by first | exact Or.inl rfl | exact Or.inr rfl))) (fun _ _ _ _ _ => pts_nil) (fun _ _ _ _ _ => (pe_p P_value hr (by decide) (pa_cons (pv 1) pa_nil))))) pss_nil) (pss_cons (ps_set (i := 6) sc_law.nd rfl (by first | exact Or.inl rfl | exact Or.inr rfl) (pe_p P_draw hr (by decide) (pa_cons (pv 1) (pa_cons pe_int pa_nil)))) (pss_cons (ps_set (i := 7) sc_law.nd rfl (by first | exact Or.inl rfl | exact Or.inr rfl) (pe_op (opAddP (K := K)) (pe_op (opAddP (K := K)) (pe_slice (slP (K := K)) (pv 5) po_none (po_some (pv 6))) (pe_lst (pa_cons (pe_p P_pick hr (by decide) (pa_cons (pv 1) (pa_cons (pe_lst (pa_cons (pe_p P_value hr (by decide) (pa_cons (pv 1) pa_nil)) (pa_cons (pe_ix (ixP (K := K)) (pv 3) pe_int (fun _ _ => rfl)) (pa_cons (pe_op (opAddP (K := K)) (pv 4) pe_int) pa_nil)))) pa_nil))) pa_nil))) (pe_slice (slP (K := K)) (pv 5) (po_some (pe_op (opAddP (K := K)) (pv 6) pe_int)) po_none))) (pss_cons (ps_if (PW.pt (pw_or (pt_not (pt_truth (pe_g P_right hgd hr (by decide) (pa_cons (pv 5) (pa_cons (pv 7) (pa_cons (pe_cmpR (opEqP tbF hu) (pe_p P_draw hr (by decide) (pa_cons (pv 1) (pa_cons pe_int pa_nil))) pe_int (by first | exact nomark _ | rfl)) pa_nil)))) (fun _ => rfl))) (pw_or1 (pt_not (pt_truth (pe_g P_right hgd hr (by decide) (pa_cons (pv 5) (pa_cons (pe_callTy (callListP (K := K)) rfl T.n_list (by decide +kernel) (pa_cons (pv 5) pa_nil)) (pa_cons pe_bl pa_nil)))) (fun _ => rfl)))))) (pss_one (ps_ret pe_bl)) pss_nil) (pss_one (ps_if (pt_not (pt_truth (pe_g P_right hgd hr (by decide) (pa_cons (pv 5) (pa_cons (pe_revP (K := K) (pv 5)) (pa_cons pe_bl pa_nil)))) (fun _ => rfl))) (pss_one (ps_ret pe_bl)) pss_nil))))))))))) (pss_one (ps_ret (pe_g P_right hgd hr (by decide) (pa_cons (pe_lst (pa_cons pe_str (pa_cons pe_int (pa_cons pe_str (pa_cons pe_str pa_nil))))) (pa_cons (pe_lst (pa_cons pe_str (pa_cons pe_int (pa_cons pe_str (pa_cons pe_str pa_nil))))) (pa_cons pe_bl pa_nil)))))))), ?_⟩
    refine ⟨_, rfl, a0, ns, rfl, hS, hl, fun p c H0 np nc hP0 s0 => ?_⟩
    refine ⟨8, rfl, by decide, by decide, ?_⟩
    refine for_range (fun i σ' H' => PenAt H' p c (600 * i) ∧ ∃ x2 x3 x4 x5 x6 x7, σ' = [some (.ref a0), some (.ref p), x2, x3, x4, x5, x6, x7]) ⟨hP0, _, _, _, _, _, _, rfl⟩ ?_ ?_
    · rintro i σ' H1 hi ⟨hP1, x2, x3, x4, x5, x6, x7, rfl⟩
      have hi8 : i < 8 := hi
      refine ⟨_, rfl, p, c, 600 * i, _, rfl, hP1, by omega, ⟨4, rfl, by decide, by decide⟩, ?_⟩
      rintro v H2 hP2 s2 ⟨m, W, ws, em, rfl, hW, hwl, hwn, hww⟩
      cases em
      obtain ⟨u1, u2, u3, u4, rfl⟩ : ∃ a b c d, ws = [a, b, c, d] := by
        match ws, (by omega : ws.length = 4) with
        | [a, b, c, d], _ => exact ⟨a, b, c, d, rfl⟩
      obtain ⟨hW2, nW⟩ := Im_get hW
      have w1 : IsW u1 := hww _ (by simp)
      have w2 : IsW u2 := hww _ (by simp)
      have w3 : IsW u3 := hww _ (by simp)
      have w4 : IsW u4 := hww _ (by simp)
      -- at
      have cp9 : CPow 10 9 := ⟨by decide, by decide, by decide⟩
      have cp39 : CPow 10 39 := ⟨by decide, by decide, by decide⟩
      refine ⟨_, rfl, _, rfl, _, _, rfl, rfl, cp9, p, c, 600 * i + 520, _, rfl, hP2, by omega, ⟨_, rfl, by decide, by decide⟩, ?_⟩
      rintro v H3 hP3 s3 ⟨m, r, em, rfl, hr0, hr1⟩
      have hr9 : r < 10 ^ 9 := by
        cases em
        exact hr1
      refine ⟨_, _, rfl, rfl, cp39, by show 5 ≤ sizeLine; decide, fun l1 h1 => ?_⟩
      have nl1 := hP3.ne h1
      refine ⟨p, c, 600 * i + 521, _, rfl, hP3.upd h1, by omega, ⟨_, rfl, Or.inl ⟨l1, _, rfl, Or.inl (Im_upd nl1), by simp, by show 5 ≤ 100000; decide⟩⟩, ?_⟩
      rintro v H4 hP4 s4 ⟨x, ex, hi4⟩
      cases ex
      have hv := hi4.lst (s4 _ _ (Im_upd nl1))
      obtain ⟨z, rfl, hz⟩ : ∃ z : Int, v = .int z ∧ z.natAbs ≤ 10 ^ 39 := by
        simp only [List.mem_cons, List.not_mem_nil, or_false] at hv
        rcases hv with rfl | rfl | rfl | rfl | rfl
        · exact ⟨_, rfl, by decide⟩
        · exact ⟨_, rfl, by decide⟩
        · exact ⟨_, rfl, by decide⟩
        · exact ⟨_, rfl, by omega⟩
        · exact ⟨_, rfl, by decide⟩
      have s24 : Same (Im H2 p) (Im H4 p) := (s3.trans (Same.updI h1)).trans s4
      have hz1 : z.natAbs.log2 < 1920 := log2_lt (Nat.lt_of_le_of_lt hz (by decide +kernel)) (by decide)
      have hz2 : (z + 1).natAbs.log2 < 1920 := log2_lt (Nat.lt_of_le_of_lt (show (z + 1).natAbs ≤ 10 ^ 39 + 1 by omega) (by decide +kernel)) (by decide)
      have hW4 := same_at s24 hW2 nW
      -- some
      have aw0 : ∀ a b c d : V, atI [a, b, c, d] 0 = some a := fun _ _ _ _ => rfl
      have aw1 : ∀ a b c d : V, atI [a, b, c, d] 1 = some b := fun _ _ _ _ => rfl
      have aw2 : ∀ a b c d : V, atI [a, b, c, d] 2 = some c := fun _ _ _ _ => rfl
      have aw3 : ∀ a b c d : V, atI [a, b, c, d] 3 = some d := fun _ _ _ _ => rfl
      refine ⟨_, rfl, Or.inl ⟨W, _, _, _, rfl, rfl, SqL.of hW4, aw0 .., ?_⟩⟩
      refine ⟨_, rfl, _, rfl, Or.inl ⟨W, _, _, _, rfl, rfl, SqL.of hW4, aw1 .., ?_⟩⟩
      refine ⟨_, rfl, _, rfl, p, c, 600 * i + 522, _, rfl, hP4, by omega, ⟨_, rfl, Or.inl ⟨W, _, rfl, Or.inl (Im_of hW4 nW), by simp, by show 4 ≤ 100000; decide⟩⟩, ?_⟩
      rintro v H5 hP5 s5 ⟨x, ex, hi5⟩
      cases ex
      have hW5i := s5 _ _ (Im_of hW4 nW)
      obtain ⟨u5, rfl, w5⟩ : ∃ u, v = .str u ∧ IsW u := by
        obtain ⟨u, hu, rfl⟩ := List.mem_map.mp (hi5.lst hW5i)
        exact ⟨u, rfl, hww u hu⟩
      have hW5 := (Im_get hW5i).1
      refine ⟨by show 4 ≤ sizeLine; decide, fun B hB => ?_⟩
      have nB := hP5.ne hB
      have hP6 := hP5.upd (o := .lst [.str u1, .int z, .str u2, .str u5]) hB
      have hW6 : upd H5 B (.lst [.str u1, .int z, .str u2, .str u5]) W = _ := Same.upd hB _ _ hW5
      have hB6 : upd H5 B (.lst [.str u1, .int z, .str u2, .str u5]) B = _ := upd_same
      show (fun H6 => _) (upd H5 B (.lst [.str u1, .int z, .str u2, .str u5]))
      generalize upd H5 B (.lst [.str u1, .int z, .str u2, .str u5]) = H6 at hP6 hW6 hB6 ⊢
      -- its str
      refine ⟨_, rfl, _, rfl, _, _, rfl, rfl, by show (0 : Int) < 2; decide, Or.inl ⟨rfl, ?_⟩⟩
      refine ⟨B, _, _, rfl, hB6, rfl, fun x H7 nx px s7 => ?_⟩
      obtain ⟨dx, v1, v2, v3, v4, ev, hx⟩ := id px
      refine ⟨x, dx, _, rfl, hx, x, u1, z, u2, u5, rfl, px, hz1, w1.2.1, w2.2.1, w5.2.1, _, rfl, ?_⟩
      have li := int_text_len_1921 hz1
      have lb : (Str.ofString " ").length = 1 := by decide +kernel
      have sz : (sizeLine : Nat) = 16777216 := sizeLine_eq
      have k1 := w1.2.1
      have k2 := w2.2.1
      have k5 := w5.2.1
      have hB7 := s7 _ _ hB6
      have hW7 := s7 _ _ hW6
      have hP7 := hP6.same s7
      refine ⟨_, rfl, Or.inl ⟨B, _, _, _, rfl, rfl, SqL.of hB7, aw0 .., ?_⟩⟩
      refine Or.inr (Or.inl ⟨_, _, rfl, rfl, by omega, ?_⟩)
      refine ⟨_, rfl, Or.inl ⟨z, rfl, hz1, ?_⟩⟩
      refine Or.inr (Or.inl ⟨_, _, rfl, rfl, by rw [strLen_append]; omega, ?_⟩)
      refine Or.inr (Or.inl ⟨_, _, rfl, rfl, by rw [strLen_append, strLen_append]; omega, ?_⟩)
      refine ⟨_, rfl, Or.inl ⟨B, _, _, _, rfl, rfl, SqL.of hB7, aw2 .., ?_⟩⟩
      refine Or.inr (Or.inl ⟨_, _, rfl, rfl, by rw [strLen_append, strLen_append, strLen_append]; omega, ?_⟩)
      refine Or.inr (Or.inl ⟨_, _, rfl, rfl, by rw [strLen_append, strLen_append, strLen_append, strLen_append]; omega, ?_⟩)
      refine ⟨_, rfl, Or.inl ⟨B, _, _, _, rfl, rfl, SqL.of hB7, aw3 .., ?_⟩⟩
      refine Or.inr (Or.inl ⟨_, _, rfl, rfl, by rw [strLen_append, strLen_append, strLen_append, strLen_append, strLen_append]; omega, ?_⟩)
      refine Or.inl ⟨rfl, _, rfl, ?_⟩
      rw [ne_self]
      refine iteF ?_
      -- other values, at times
      refine ⟨fun σ' H' => PenAt H' p c (600 * i + 530) ∧ H' W = some (.lst ([u1, u2, u3, u4].map V.str)) ∧ (∃ B' us ds, H' B' = some (.lst us) ∧ B' ≠ p ∧ us.length = 4 ∧ Dqs TB (Im H' p) us ds ∧ (∀ d ∈ ds, Sm d) ∧
        ∃ y6, σ' = [some (.ref a0), some (.ref p), some (.int (0 + i)), some (.ref W), some (.int z), some (.ref B'), y6, x7]), ?_, ?_⟩
      · refine ⟨_, rfl, p, c, 600 * i + 523, _, rfl, hP7, by omega, ⟨_, rfl, by decide, by decide⟩, ?_⟩
        rintro v H8 hP8 s8 ⟨m, r2, em, rfl, g0, g1⟩
        have hW8 := same_at s8 hW7 nW
        have hB8 := same_at s8 hB7 nB
        refine Or.inl ⟨rfl, _, rfl, ?_⟩
        refine ite2 (fun _ => ?_) (fun _ => ?_)
        · refine ⟨4, rfl, by decide, by decide, fun D hD => ?_⟩
          have nD := hP8.ne hD
          have nDC := hP8.neC hD
          have nDW : W ≠ D := ne_of_none hW8 hD
          refine lc_range (fun j H' => PenAt H' p c (600 * i + 524 + j) ∧ H' W = some (.lst ([u1, u2, u3, u4].map V.str)) ∧ ∃ us ds, us.length = j ∧ H' D = some (.lst us) ∧ Dqs TB (Im (Im H' p) D) us ds ∧ ∀ d ∈ ds, Sm d)
            ⟨hP8.upd hD, by rw [upd_ne nDW]; exact hW8, [], [], rfl, upd_same, .nil, fun _ h => nomatch h⟩ ?_ ?_
          · rintro j H' hj ⟨hP9, hW9, us, ds, hul, hD9, hq, hsm⟩
            have hj4 : j < 4 := hj
            refine ⟨rfl, tYes_go ?_⟩
            refine ⟨_, rfl, p, c, 600 * i + 524 + j, rfl, hP9, by omega, ?_⟩
            intro v H9 h d hP10 s9 sh hn hd hsd
            have hD10 := same_at s9 hD9 nD
            have sh2 : Same h (Im (Im (upd H9 D (.lst (us ++ [v]))) p) D) := fun b u e => by
              have nb : b ≠ D := by
                rintro rfl
                rw [hn _ (by rw [hD9]; simp)] at e
                cases e
              obtain ⟨e1, e2⟩ := Im_get (sh _ _ e)
              exact Im_of (Im_of (by rw [upd_ne nb]; exact e1) e2) nb
            have sh3 : Same (Im (Im H' p) D) (Im (Im (upd H9 D (.lst (us ++ [v]))) p) D) := fun b u e => by
              obtain ⟨e1, nb⟩ := Im_get e
              obtain ⟨e2, e3⟩ := Im_get (s9 _ _ e1)
              exact Im_of (Im_of (by rw [upd_ne nb]; exact e2) e3) nb
            refine ⟨us, hD10, by rw [hul]; exact Nat.lt_of_lt_of_le hj4 (by decide), hP10.put nD nDC, by rw [upd_ne nDW]; exact same_at s9 hW9 nW, us ++ [v], ds ++ [d], by simp [hul], upd_same, Dqs.app (hq.mono sh3) (.cons (hd.mono sh2) .nil), ?_⟩
            intro e he
            rcases List.mem_append.mp he with he | he
            · exact hsm e he
            · rw [List.mem_singleton] at he
              rw [he]
              exact hsd
          · rintro H' ⟨hP9, hW9, us, ds, hul, hD9, hq, hsm⟩
            exact ⟨hP9.mono (by show 600 * i + 524 + 4 ≤ _; omega), hW9, D, us, ds, hD9, nD, hul, hq.mono Im_sub, hsm, _, rfl⟩
        · exact ⟨hP8.mono (by omega), hW8, B, _, _, hB8, nB, rfl, .cons (.str _) (.cons (.int _) (.cons (.str _) (.cons (.str _) .nil))), fun d hd => by
            simp only [List.mem_cons, List.not_mem_nil, or_false] at hd
            rcases hd with rfl | rfl | rfl | rfl
            · exact sm_word w1
            · exact sm_int hz1
            · exact sm_word w2
            · exact sm_word w5, _, rfl⟩
      rintro σ' H8 ⟨hP8, hW8, B', us, ds, hB8, nB', hul, hq, hsm, y6, rfl⟩
      refine ⟨_, rfl, p, c, 600 * i + 530, _, rfl, hP8, by omega, ⟨_, rfl, by decide, by decide⟩, ?_⟩
      rintro v H9 hP9 s9 ⟨m, r3, em, rfl, g0, g1⟩
      have hk4 : r3 < 4 := by
        cases em
        exact g1
      obtain ⟨K3, rfl⟩ := Int.eq_ofNat_of_zero_le g0
      have hW9 := same_at s9 hW8 nW
      have hB9 := same_at s9 hB8 nB'
      have hq9 := hq.mono s9
      -- the rest
      refine ⟨_, rfl, _, rfl, _, rfl, Or.inl ⟨B', us, rfl, SqL.of hB9, fun l1 h1 => ?_⟩⟩
      have hP10 := hP9.upd (o := .lst (cutV us none (some (K3 : Int)))) h1
      have s10 : Same H9 (upd H9 l1 (.lst (cutV us none (some (K3 : Int))))) := Same.upd h1
      have n1 := hP9.ne h1
      have hl1 : (upd H9 l1 (.lst (cutV us none (some (K3 : Int))))) l1 = some (.lst (us.take K3)) := by rw [upd_same, cut_hi]
      generalize upd H9 l1 (.lst (cutV us none (some (K3 : Int)))) = H10 at hP10 s10 hl1 ⊢
      refine ⟨_, rfl, _, rfl, p, c, 600 * i + 531, rfl, hP10, by omega, ?_⟩
      intro v H11 h d hP11 s11 sh hn hd hsd
      have hW11 := same_at s11 (s10 _ _ hW9) nW
      refine ⟨_, rfl, Or.inl ⟨W, _, _, _, rfl, rfl, SqL.of hW11, aw3 .., ?_⟩⟩
      refine ⟨_, rfl, Or.inl ⟨_, _, rfl, rfl, ?_⟩⟩
      refine ⟨by show 3 ≤ sizeLine; decide, fun l2 h2 => ?_⟩
      have n2 := hP11.ne h2
      refine ⟨p, c, 600 * i + 532, _, rfl, hP11.upd h2, by omega, ⟨_, rfl, Or.inl ⟨l2, _, rfl, Or.inl (Im_upd n2), by simp, by show 3 ≤ 100000; decide⟩⟩, ?_⟩
      rintro v' H12 hP12 s12 ⟨x', ex, hi12⟩
      cases ex
      have hv12 := hi12.lst (s12 _ _ (Im_upd n2))
      have s1112 : Same (Im H11 p) (Im H12 p) := (Same.updI h2).trans s12
      obtain ⟨d', hd', hsd'⟩ : ∃ d', Dq TB (Im H12 p) v' d' ∧ Sm d' := by
        simp only [List.mem_cons, List.not_mem_nil, or_false] at hv12
        rcases hv12 with rfl | rfl | rfl
        · exact ⟨d, (hd.mono sh).mono s1112, hsd⟩
        · exact ⟨_, .str _, sm_word w4⟩
        · exact ⟨_, .int _, sm_int hz2⟩
      have s912 : Same (Im H9 p) (Im H12 p) := ((sameIm s10).trans s11).trans s1112
      have hl1' := same_at (s11.trans s1112) hl1 n1
      have hB12 := same_at s912 hB9 nB'
      refine ⟨by show 1 ≤ sizeLine; decide, fun l3 h3 => ?_⟩
      have hl13 := (Same.upd (o := .lst [v']) h3) _ _ hl1'
      have hus : ∀ n, (us.take n).length ≤ 4 := fun n => by rw [List.length_take, hul]; exact Nat.min_le_right ..
      have husd : ∀ n, (us.drop n).length ≤ 4 := fun n => by rw [List.length_drop, hul]; exact Nat.sub_le ..
      refine Or.inr (Or.inr (Or.inl ⟨l1, l3, _, _, rfl, rfl, hl13, upd_same, by have := hus K3; simp only [List.length_cons, List.length_nil]; omega, fun l4 h4 => ?_⟩))
      have s14 : Same H12 (upd (upd H12 l3 (.lst [v'])) l4 (.lst (us.take K3 ++ [v']))) := (Same.upd h3).trans (Same.upd h4)
      have hl4 : (upd (upd H12 l3 (.lst [v'])) l4 (.lst (us.take K3 ++ [v']))) l4 = _ := upd_same
      generalize upd (upd H12 l3 (.lst [v'])) l4 (.lst (us.take K3 ++ [v'])) = H14 at s14 hl4 ⊢
      refine ⟨_, rfl, _, rfl, Or.inl ⟨_, _, rfl, rfl, _, rfl, ?_⟩⟩
      refine Or.inl ⟨B', us, rfl, SqL.of (s14 _ _ hB12), fun l5 h5 => ?_⟩
      have hl45 := (Same.upd (o := .lst (cutV us (some ((K3 : Int) + 1)) none)) h5) _ _ hl4
      have hl5 : (upd H14 l5 (.lst (cutV us (some ((K3 : Int) + 1)) none))) l5 = some (.lst (us.drop (K3 + 1))) := by rw [upd_same]; exact congrArg (fun x => some (HO.lst x)) (cut_lo us (K3 + 1))
      refine Or.inr (Or.inr (Or.inl ⟨l4, l5, _, _, rfl, rfl, hl45, hl5, by have := hus K3; have := husd (K3 + 1); simp only [List.length_append, List.length_cons, List.length_nil]; omega, fun R hR => ?_⟩))
      have s16 : Same H14 (upd (upd H14 l5 (.lst (cutV us (some ((K3 : Int) + 1)) none))) R (.lst (us.take K3 ++ [v'] ++ us.drop (K3 + 1)))) := (Same.upd h5).trans (Same.upd hR)
      have hR16 : (upd (upd H14 l5 (.lst (cutV us (some ((K3 : Int) + 1)) none))) R (.lst (us.take K3 ++ [v'] ++ us.drop (K3 + 1)))) R = _ := upd_same
      have nR : R ≠ p := by
        have := (hP12.same s14).same (Same.upd (o := .lst (cutV us (some ((K3 : Int) + 1)) none)) h5)
        exact this.ne hR
      show (fun HH => _) (upd (upd H14 l5 (.lst (cutV us (some ((K3 : Int) + 1)) none))) R (.lst (us.take K3 ++ [v'] ++ us.drop (K3 + 1))))
      generalize upd (upd H14 l5 (.lst (cutV us (some ((K3 : Int) + 1)) none))) R (.lst (us.take K3 ++ [v'] ++ us.drop (K3 + 1))) = H16 at s16 hR16 ⊢
      have s1216 : Same H12 H16 := s14.trans s16
      have hP16 := hP12.same s1216
      have hB16 := s1216 _ _ hB12
      have hq16 : Dqs TB (Im H16 p) us ds := hq9.mono (s912.trans (sameIm s1216))
      have hqr : Dqs TB (Im H16 p) (us.take K3 ++ [v'] ++ us.drop (K3 + 1)) (ds.take K3 ++ [d'] ++ ds.drop (K3 + 1)) := Dqs.app (Dqs.app (Dqs.take K3 hq16) (.cons (hd'.mono (sameIm s1216)) .nil)) (Dqs.drop (K3 + 1) hq16)
      have hsr : ∀ e ∈ ds.take K3 ++ [d'] ++ ds.drop (K3 + 1), Sm e := by
        intro e he
        rcases List.mem_append.mp he with he | he
        · rcases List.mem_append.mp he with he | he
          · exact hsm e (List.mem_of_mem_take he)
          · rw [List.mem_singleton] at he
            rw [he]
            exact hsd'
        · exact hsm e (List.mem_of_mem_drop he)
      have hlr : (us.take K3 ++ [v'] ++ us.drop (K3 + 1)).length = 4 := by
        simp only [List.length_append, List.length_take, List.length_drop, List.length_cons, List.length_nil, hul]
        omega
      generalize us.take K3 ++ [v'] ++ us.drop (K3 + 1) = ws at hqr hlr hR16 ⊢
      generalize ds.take K3 ++ [d'] ++ ds.drop (K3 + 1) = es at hqr hsr
      -- the three rounds
      refine ⟨_, rfl, _, rfl, _, rfl, p, c, 600 * i + 533, _, rfl, hP16, by omega, ⟨_, rfl, by decide, by decide⟩, ?_⟩
      rintro v17 H17 hP17 s17 ⟨m, r4, em4, rfl, g2, g3⟩
      refine Or.inl ⟨rfl, ?_⟩
      have hB17 := same_at s17 hB16 nB'
      have hR17 := same_at s17 hR16 nR
      have hq17 : Dqs TB H17 us ds := (hq16.mono s17).mono Im_sub
      have hqr17 : Dqs TB H17 ws es := (hqr.mono s17).mono Im_sub
      refine ⟨B', R, _, us, ws, ds, es, rfl, hB17, hR17, hul, hlr, hq17, hqr17, hsm, hsr, fun H18 s18 => ?_⟩
      refine ⟨true, rfl, ?_⟩
      refine iteF ?_
      have hB18 := s18 _ _ hB17
      have hq18 := hq17.mono s18
      refine ⟨_, rfl, _, rfl, B', us, rfl, Or.inl (SqL.of hB18), fun l6 h6 => ?_⟩
      have s19 : Same H18 (upd H18 l6 (.lst us)) := Same.upd h6
      refine ⟨B', l6, true, us, us, ds, ds, rfl, s19 _ _ hB18, upd_same, hul, hul, hq18.mono s19, hq18.mono s19, hsm, hsm, fun H19 s20 => ?_⟩
      refine ⟨true, rfl, ?_⟩
      refine iteF ?_
      have s1820 := s19.trans s20
      have hB20 := s1820 _ _ hB18
      refine ⟨_, rfl, _, rfl, B', us, rfl, SqL.of hB20, fun l7 h7 => ?_⟩
      have s21 : Same H19 (upd H19 l7 (.lst us.reverse)) := Same.upd h7
      have hq21 := (hq18.mono s1820).mono s21
      refine ⟨B', l7, false, us, us.reverse, ds, ds.reverse, rfl, s21 _ _ hB20, upd_same, hul, by rw [List.length_reverse]; exact hul, hq21, Dqs.rev hq21, hsm, fun d hd => hsm d (List.mem_reverse.mp hd), fun H22 s22 => ?_⟩
      refine ⟨true, rfl, ?_⟩
      refine iteF ?_
      exact ⟨(hP17.same (s18.trans (s1820.trans (s21.trans s22)))).mono (by omega), _, _, _, _, _, _, rfl⟩
    · rintro σ' H1 ⟨hP1, x2, x3, x4, x5, x6, x7, rfl⟩
      refine ⟨by show 4 ≤ sizeLine; decide, fun l1 h1 => ⟨by show 4 ≤ sizeLine; decide, fun l2 h2 => ?_⟩⟩
      have smw : ∀ (a b c : Str) (d : PyData), (isWB a && isWB b && isWB c) = true → d ∈ [PyData.str a, .int 0, .str b, .str c] → Sm d := by
        intro a b c d h hd
        simp only [Bool.and_eq_true] at h
        simp only [List.mem_cons, List.not_mem_nil, or_false] at hd
        rcases hd with rfl | rfl | rfl | rfl
        · exact sm_word (isW_of h.1.1)
        · exact sm_int (by decide)
        · exact sm_word (isW_of h.1.2)
        · exact sm_word (isW_of h.2)
      refine ⟨l1, l2, true, _, _, _, _, rfl, Same.upd h2 _ _ upd_same, upd_same, rfl, rfl, .cons (.str _) (.cons (.int _) (.cons (.str _) (.cons (.str _) .nil))), .cons (.str _) (.cons (.int _) (.cons (.str _) (.cons (.str _) .nil))), fun d hd => smw _ _ _ d (by decide +kernel) hd, fun d hd => smw _ _ _ d (by decide +kernel) hd, fun H' _ => k H'⟩
end
end L16

namespace L16
open PySem PySem.Spec PyProof.Rows L2 Kq
theorem kb2 {K : PySem.W.Frag} {kV dc pm cd ct : Value} {an : Option Addr} : KBn K (PySem.W.fnOf "__init__" "Pull.__init__" (defArgs st_Pull_init) (defBody st_Pull_init) (defScope st_Pull_init) .none kV dc pm an cd ct) ps_Pull_init 3 ["right", "left"] (fun us ws => us ++ ws.reverse) gV2 :=
  ⟨fun s us ws _ h1 h2 => match us, ws, h1, h2 with | [_, _, _], [_, _], _, _ => .of_eq rfl, fun r1 r2 => kb_rel r1 r2⟩
theorem all_mk {l : PySem.W.OpenLaw} {w : World} {K : PySem.W.Frag} {h : Heap} {mg : Str → Option Value} {fa : Addr} (X : K.In h) (G : h.Ns mainGlobals mg) (hfa : mg "law" = some (.ref fa))
    {od_pen an_pen : Option Addr} {sl_pen : Array (Option Value)} {oc_pen kV_pen dc_pen pm_pen cd_pen ct_pen : Value} {f_pen : Addr}
    {od_draw an_draw : Option Addr} {sl_draw : Array (Option Value)} {oc_draw kV_draw dc_draw pm_draw cd_draw ct_draw : Value} {f_draw : Addr}
    {od_pick an_pick : Option Addr} {sl_pick : Array (Option Value)} {oc_pick kV_pick dc_pick pm_pick cd_pick ct_pick : Value} {f_pick : Addr}
    {od_word an_word : Option Addr} {sl_word : Array (Option Value)} {oc_word kV_word dc_word pm_word cd_word ct_word : Value} {f_word : Addr}
    {od_words an_words : Option Addr} {sl_words : Array (Option Value)} {oc_words kV_words dc_words pm_words cd_words ct_words : Value} {f_words : Addr}
    {od_value an_value : Option Addr} {sl_value : Array (Option Value)} {oc_value kV_value dc_value pm_value cd_value ct_value : Value} {f_value : Addr}
    {od_pull an_pull : Option Addr} {sl_pull : Array (Option Value)} {oc_pull kV_pull dc_pull pm_pull cd_pull ct_pull : Value} {f_pull : Addr}
    {od_told an_told : Option Addr} {sl_told : Array (Option Value)} {oc_told kV_told dc_told pm_told cd_told ct_told : Value} {f_told : Addr}
    {od_right an_right : Option Addr} {sl_right : Array (Option Value)} {oc_right kV_right dc_right pm_right cd_right ct_right : Value} {f_right : Addr}
    {od_law an_law : Option Addr} {sl_law : Array (Option Value)} {oc_law kV_law dc_law pm_law cd_law ct_law : Value} {f_law : Addr}
    {C_Pull : Addr}
    {od_init an_init : Option Addr} {sl_init : Array (Option Value)} {oc_init kV_init dc_init pm_init cd_init ct_init : Value} {f_init : Addr}
    {od_eq an_eq : Option Addr} {sl_eq : Array (Option Value)} {oc_eq kV_eq dc_eq pm_eq cd_eq ct_eq : Value} {f_eq : Addr}
    {od_str an_str : Option Addr} {sl_str : Array (Option Value)} {oc_str kV_str dc_str pm_str cd_str ct_str : Value} {f_str : Addr}
    (a_pen : PySem.W.nsIn K mainGlobals "_law_pen" = some (some (.ref f_pen)))
    (l_pen : K.lookup f_pen = some ⟨oc_pen, od_pen, .func (PySem.W.fnOf "_law_pen" "_law_pen" (defArgs st_pen) (defBody st_pen) (defScope st_pen) .none kV_pen dc_pen pm_pen an_pen cd_pen ct_pen), sl_pen⟩)
    (c_pen : PySem.W.codeIn K cd_pen "_law_pen" = true)
    (k_pen : PySem.W.keepIn K (.ref f_pen) = true)
    (a_draw : PySem.W.nsIn K mainGlobals "_law_draw" = some (some (.ref f_draw)))
    (l_draw : K.lookup f_draw = some ⟨oc_draw, od_draw, .func (PySem.W.fnOf "_law_draw" "_law_draw" (defArgs st_draw) (defBody st_draw) (defScope st_draw) .none kV_draw dc_draw pm_draw an_draw cd_draw ct_draw), sl_draw⟩)
    (c_draw : PySem.W.codeIn K cd_draw "_law_draw" = true)
    (k_draw : PySem.W.keepIn K (.ref f_draw) = true)
    (a_pick : PySem.W.nsIn K mainGlobals "_law_pick" = some (some (.ref f_pick)))
    (l_pick : K.lookup f_pick = some ⟨oc_pick, od_pick, .func (PySem.W.fnOf "_law_pick" "_law_pick" (defArgs st_pick) (defBody st_pick) (defScope st_pick) .none kV_pick dc_pick pm_pick an_pick cd_pick ct_pick), sl_pick⟩)
    (c_pick : PySem.W.codeIn K cd_pick "_law_pick" = true)
    (k_pick : PySem.W.keepIn K (.ref f_pick) = true)
    (a_word : PySem.W.nsIn K mainGlobals "_law_word" = some (some (.ref f_word)))
    (l_word : K.lookup f_word = some ⟨oc_word, od_word, .func (PySem.W.fnOf "_law_word" "_law_word" (defArgs st_word) (defBody st_word) (defScope st_word) .none kV_word dc_word pm_word an_word cd_word ct_word), sl_word⟩)
    (c_word : PySem.W.codeIn K cd_word "_law_word" = true)
    (k_word : PySem.W.keepIn K (.ref f_word) = true)
    (a_words : PySem.W.nsIn K mainGlobals "_law_words" = some (some (.ref f_words)))
    (l_words : K.lookup f_words = some ⟨oc_words, od_words, .func (PySem.W.fnOf "_law_words" "_law_words" (defArgs st_words) (defBody st_words) (defScope st_words) .none kV_words dc_words pm_words an_words cd_words ct_words), sl_words⟩)
    (c_words : PySem.W.codeIn K cd_words "_law_words" = true)
    (k_words : PySem.W.keepIn K (.ref f_words) = true)
    (a_value : PySem.W.nsIn K mainGlobals "_law_value" = some (some (.ref f_value)))
    (l_value : K.lookup f_value = some ⟨oc_value, od_value, .func (PySem.W.fnOf "_law_value" "_law_value" (defArgs st_value) (defBody st_value) (defScope st_value) .none kV_value dc_value pm_value an_value cd_value ct_value), sl_value⟩)
    (c_value : PySem.W.codeIn K cd_value "_law_value" = true)
    (k_value : PySem.W.keepIn K (.ref f_value) = true)
    (a_pull : PySem.W.nsIn K mainGlobals "_law_pull" = some (some (.ref f_pull)))
    (l_pull : K.lookup f_pull = some ⟨oc_pull, od_pull, .func (PySem.W.fnOf "_law_pull" "_law_pull" (defArgs st_pull) (defBody st_pull) (defScope st_pull) .none kV_pull dc_pull pm_pull an_pull cd_pull ct_pull), sl_pull⟩)
    (c_pull : PySem.W.codeIn K cd_pull "_law_pull" = true)
    (k_pull : PySem.W.keepIn K (.ref f_pull) = true)
    (a_told : PySem.W.nsIn K mainGlobals "_law_told" = some (some (.ref f_told)))
    (l_told : K.lookup f_told = some ⟨oc_told, od_told, .func (PySem.W.fnOf "_law_told" "_law_told" (defArgs st_told) (defBody st_told) (defScope st_told) .none kV_told dc_told pm_told an_told cd_told ct_told), sl_told⟩)
    (c_told : PySem.W.codeIn K cd_told "_law_told" = true)
    (k_told : PySem.W.keepIn K (.ref f_told) = true)
    (a_right : PySem.W.nsIn K mainGlobals "_law_right" = some (some (.ref f_right)))
    (l_right : K.lookup f_right = some ⟨oc_right, od_right, .func (PySem.W.fnOf "_law_right" "_law_right" (defArgs st_right) (defBody st_right) (defScope st_right) .none kV_right dc_right pm_right an_right cd_right ct_right), sl_right⟩)
    (c_right : PySem.W.codeIn K cd_right "_law_right" = true)
    (k_right : PySem.W.keepIn K (.ref f_right) = true)
    (a_law : PySem.W.nsIn K mainGlobals "law" = some (some (.ref f_law)))
    (l_law : K.lookup f_law = some ⟨oc_law, od_law, .func (PySem.W.fnOf "law" "law" (defArgs st_law) (defBody st_law) (defScope st_law) .none kV_law dc_law pm_law an_law cd_law ct_law), sl_law⟩)
    (c_law : PySem.W.codeIn K cd_law "law" = true)
    (k_law : PySem.W.keepIn K (.ref f_law) = true)
    (aC_Pull : PySem.W.nsIn K mainGlobals "Pull" = some (some (.ref C_Pull)))
    (pg_Pull : PySem.W.plainGet K C_Pull Str.empty = true)
    (hd_Pull : PySem.W.hasDictIn K C_Pull = true)
    (po_Pull : PySem.W.plainOver K C_Pull = true)
    (sa_Pull : PySem.W.findIn K (.ref C_Pull) "__setattr__" = some (some (.builtin "object.__setattr__")))
    (mk_Pull : PySem.W.makesIn K C_Pull = true)
    (kc_Pull : PySem.W.keepIn K (.ref C_Pull) = true)
    (a_init : PySem.W.findIn K (.ref C_Pull) "__init__" = some (some (.ref f_init)))
    (i_init : PySem.W.isFn K (.ref f_init) = true)
    (l_init : K.lookup f_init = some ⟨oc_init, od_init, .func (PySem.W.fnOf "__init__" "Pull.__init__" (defArgs st_Pull_init) (defBody st_Pull_init) (defScope st_Pull_init) .none kV_init dc_init pm_init an_init cd_init ct_init), sl_init⟩)
    (c_init : PySem.W.codeIn K cd_init "Pull.__init__" = true)
    (k_init : PySem.W.keepIn K (.ref f_init) = true)
    (a_eq : PySem.W.findIn K (.ref C_Pull) "__eq__" = some (some (.ref f_eq)))
    (i_eq : PySem.W.isFn K (.ref f_eq) = true)
    (l_eq : K.lookup f_eq = some ⟨oc_eq, od_eq, .func (PySem.W.fnOf "__eq__" "Pull.__eq__" (defArgs st_Pull_eq) (defBody st_Pull_eq) (defScope st_Pull_eq) .none kV_eq dc_eq pm_eq an_eq cd_eq ct_eq), sl_eq⟩)
    (c_eq : PySem.W.codeIn K cd_eq "Pull.__eq__" = true)
    (k_eq : PySem.W.keepIn K (.ref f_eq) = true)
    (a_str : PySem.W.findIn K (.ref C_Pull) "__str__" = some (some (.ref f_str)))
    (i_str : PySem.W.isFn K (.ref f_str) = true)
    (l_str : K.lookup f_str = some ⟨oc_str, od_str, .func (PySem.W.fnOf "__str__" "Pull.__str__" (defArgs st_Pull_str) (defBody st_Pull_str) (defScope st_Pull_str) .none kV_str dc_str pm_str an_str cd_str ct_str), sl_str⟩)
    (c_str : PySem.W.codeIn K cd_str "Pull.__str__" = true)
    (k_str : PySem.W.keepIn K (.ref f_str) = true)
    (n_word : PySem.W.findIn K (.ref C_Pull) "word" = some none)
    (n_at : PySem.W.findIn K (.ref C_Pull) "at" = some none)
    (n_left : PySem.W.findIn K (.ref C_Pull) "left" = some none)
    (n_right : PySem.W.findIn K (.ref C_Pull) "right" = some none)
    (ha : PySem.W.findIn K (.ref C_Pull) "__class__" = some (some (.builtin "object.__class__")))
    (hn : PySem.W.specialIn K (.builtin "object.__class__") "__get__" = some (some (.builtin "getset_descriptor.__get__")))
    (htk : PySem.W.takesIn K (.builtin "object.__class__") = some true)
    (hm : PySem.W.mroIn K C_Pull (.type "object") = some true)
    (ct : PySem.W.typeIn K (.ref C_Pull) = some (.type "type"))
    (hne : PySem.W.findIn K (.ref C_Pull) "__ne__" = some (some (.builtin "object.__ne__")))
    (z_len : PySem.W.nsIn K mainGlobals "len" = some none)
    (z_int : PySem.W.nsIn K mainGlobals "int" = some none)
    (z_abs : PySem.W.nsIn K mainGlobals "abs" = some none)
    (z_list : PySem.W.nsIn K mainGlobals "list" = some none)
    (z_range : PySem.W.nsIn K mainGlobals "range" = some none)
    (z_repr : PySem.W.nsIn K mainGlobals "repr" = some none)
    (z_str : PySem.W.nsIn K mainGlobals "str" = some none)
    (z_tuple : PySem.W.nsIn K mainGlobals "tuple" = some none)
    (z_isinstance : PySem.W.nsIn K mainGlobals "isinstance" = some none)
    : ∃ fd : FuncData, (∀ (s : Shared) (v : Value), BindsTo s fd ⟨[v], []⟩ [("_law_script", v)]) ∧ ∀ base : Heap, K.In base → base.Ns mainGlobals mg → (∃ o, base.get? sysModules = some o) → FnG l.prog w K mg base CX0 5 fa fd ps_law (spLaw K) := by
  have e := hfa.symm.trans (PySem.W.mg_of X G a_law)
  cases e
  have z := fun {x : Str} (h : PySem.W.nsIn K mainGlobals x = some none) => PySem.W.mg_none_of X G h
  have T : Txt K mg := ⟨z z_len, z z_int, z z_abs, z z_list, z z_range, z z_repr, z z_str, z z_tuple, z z_isinstance⟩
  have S : PullC K mg C_Pull := ⟨⟨pg_Pull, hd_Pull, po_Pull, sa_Pull⟩, PySem.W.mg_of X G aC_Pull, n_word, n_at, n_left, n_right, ha, hn, htk, hm, ct⟩
  have F_pen := fun_mk (st := st_pen) l_pen c_pen k_pen
  have F_draw := fun_mk (st := st_draw) l_draw c_draw k_draw
  have F_pick := fun_mk (st := st_pick) l_pick c_pick k_pick
  have F_word := fun_mk (st := st_word) l_word c_word k_word
  have F_words := fun_mk (st := st_words) l_words c_words k_words
  have F_value := fun_mk (st := st_value) l_value c_value k_value
  have F_pull := fun_mk (st := st_pull) l_pull c_pull k_pull
  have F_told := fun_mk (st := st_told) l_told c_told k_told
  have F_right := fun_mk (st := st_right) l_right c_right k_right
  have F_law := fun_mk (st := st_law) l_law c_law k_law
  have F_init := fun_mk (st := st_Pull_init) l_init c_init k_init
  have F_eq := fun_mk (st := st_Pull_eq) l_eq c_eq k_eq
  have F_str := fun_mk (st := st_Pull_str) l_str c_str k_str
  have b_pen := F_pen.binds (ps := ps_pen) fun _ _ _ _ _ _ us hl => match us, hl with | [_], _ => rfl
  have b_draw := F_draw.binds (ps := ps_draw) fun _ _ _ _ _ _ us hl => match us, hl with | [_, _], _ => rfl
  have b_pick := F_pick.binds (ps := ps_pick) fun _ _ _ _ _ _ us hl => match us, hl with | [_, _], _ => rfl
  have b_word := F_word.binds (ps := ps_word) fun _ _ _ _ _ _ us hl => match us, hl with | [_], _ => rfl
  have b_words := F_words.binds (ps := ps_words) fun _ _ _ _ _ _ us hl => match us, hl with | [_, _], _ => rfl
  have b_value := F_value.binds (ps := ps_value) fun _ _ _ _ _ _ us hl => match us, hl with | [_], _ => rfl
  have b_pull := F_pull.binds (ps := ps_pull) fun _ _ _ _ _ _ us hl => match us, hl with | [_, _], _ => rfl
  have b_told := F_told.binds (ps := ps_told) fun _ _ _ _ _ _ us hl => match us, hl with | [_], _ => rfl
  have b_right := F_right.binds (ps := ps_right) fun _ _ _ _ _ _ us hl => match us, hl with | [_, _, _], _ => rfl
  have b_init := F_init.binds (ps := ps_Pull_init) fun _ _ _ _ _ _ us hl => match us, hl with | [_, _, _, _, _], _ => rfl
  have b_eq := F_eq.binds (ps := ps_Pull_eq) fun _ _ _ _ _ _ us hl => match us, hl with | [_, _], _ => rfl
  have b_str := F_str.binds (ps := ps_Pull_str) fun _ _ _ _ _ _ us hl => match us, hl with | [_], _ => rfl
  refine ⟨PySem.W.fnOf "law" "law" (defArgs st_law) (defBody st_law) (defScope st_law) .none kV_law dc_law pm_law an_law cd_law ct_law, fun s v => .of_eq rfl, fun base _ _ SY => ?_⟩
  have g := fun {x : Str} {f : Addr} (h : PySem.W.nsIn K mainGlobals x = some (some (.ref f))) => PySem.W.mg_of X G h
  have P_pen : Prom l.prog w K mg base 1 "_law_pen" ps_pen (spPen K) := ⟨_, _, g a_pen, k_pen, b_pen, ok_pen F_pen T⟩
  have P_draw : Prom l.prog w K mg base 1 "_law_draw" ps_draw spDraw := ⟨_, _, g a_draw, k_draw, b_draw, ok_draw F_draw T⟩
  have P_pick : Prom l.prog w K mg base 2 "_law_pick" ps_pick spPick := ⟨_, _, g a_pick, k_pick, b_pick, ok_pick F_pick T P_draw⟩
  have P_word : Prom l.prog w K mg base 3 "_law_word" ps_word spWord := ⟨_, _, g a_word, k_word, b_word, ok_word F_word T P_pick⟩
  have P_words : Prom l.prog w K mg base 4 "_law_words" ps_words spWords := ⟨_, _, g a_words, k_words, b_words, ok_words F_words T P_word⟩
  have P_value : Prom l.prog w K mg base 3 "_law_value" ps_value spVal := ⟨_, _, g a_value, k_value, b_value, ok_value F_value T P_pick⟩
  have MK : Mk K C_Pull f_init := ⟨mk_Pull, a_init, i_init, kc_Pull⟩
  have M : MkProm l.prog w K mg base 1 "Pull" C_Pull ps_Pull_init (spInit C_Pull) := ⟨g aC_Pull, _, _, MK, b_init, ok_init F_init T S⟩
  have Mr : MkKw l.prog w K mg base 1 "Pull" C_Pull ps_Pull_init (spInit C_Pull) 2 ["right", "left"] gV2 := ⟨g aC_Pull, _, _, MK, ⟨fun us ws => us ++ ws.reverse, kb2⟩, ok_init F_init T S⟩
  have P_pull : Prom l.prog w K mg base 3 "_law_pull" ps_pull (spPull K C_Pull) := ⟨_, _, g a_pull, k_pull, b_pull, ok_pull F_pull T M Mr⟩
  have P_told : Prom l.prog w K mg base 1 "_law_told" ps_told (spTold C_Pull) := ⟨_, _, g a_told, k_told, b_told, ok_told F_told T S⟩
  have P_eq : EqProm l.prog w K mg base 1 C_Pull (spEq C_Pull) := ⟨_, _, _, ⟨a_eq, i_eq, hne, hm⟩, b_eq, ok_eq F_eq T S⟩
  have P_str : StrProm l.prog w K mg base 1 C_Pull (spStr C_Pull) := ⟨_, _, _, ⟨a_str, i_str⟩, b_str, ok_str F_str T S⟩
  have P_right : PromG l.prog w K mg base 4 "_law_right" ps_right (spRight K) := ⟨_, _, g a_right, k_right, b_right, ok_right F_right T S P_pull P_told P_eq SY⟩
  exact ok_law F_law T S P_pen P_draw P_pick P_words P_value P_pull P_right P_str
end L16
open PySem PySem.W PyProof.Rows in
set_option maxRecDepth 100000 in
set_option maxHeartbeats 0 in
theorem PySem.Challenge.cw_keptphrases_k16_pulls_compared_holds : PySem.Challenge.rw_keptphrases_k16_pulls_compared.Holds := by
  w_on; o_law; k_head; (case hw => w_witness2)
  k_fill
  refine Kq.own_walk (by decide +kernel) (k := 5) (x := "_law_script") (sp := fun K => L16.spLaw K) (l := PySem.Challenge.rw_keptphrases_k16_pulls_compared) (n := 63) rfl (by decide) rfl ⟨rfl, by decide, by decide⟩ (fun w h Y => PySem.W.kIn_of Y) ?F (fun K H a ns hl hS => ⟨a, ns, rfl, hS, hl, fun _ => rfl⟩)
  case F =>
    intro w mg fa h KX G hmg
    refine' L16.all_mk KX G hmg ?a_pen ?l_pen ?c_pen ?k_pen ?a_draw ?l_draw ?c_draw ?k_draw ?a_pick ?l_pick ?c_pick ?k_pick ?a_word ?l_word ?c_word ?k_word ?a_words ?l_words ?c_words ?k_words ?a_value ?l_value ?c_value ?k_value ?a_pull ?l_pull ?c_pull ?k_pull ?a_told ?l_told ?c_told ?k_told ?a_right ?l_right ?c_right ?k_right ?a_law ?l_law ?c_law ?k_law ?aC_Pull ?pg_Pull ?hd_Pull ?po_Pull ?sa_Pull ?mk_Pull ?kc_Pull ?a_init ?i_init ?l_init ?c_init ?k_init ?a_eq ?i_eq ?l_eq ?c_eq ?k_eq ?a_str ?i_str ?l_str ?c_str ?k_str ?n_word ?n_at ?n_left ?n_right ?ha ?hn ?htk ?hm ?ct ?hne ?z_len ?z_int ?z_abs ?z_list ?z_range ?z_repr ?z_str ?z_tuple ?z_isinstance
    (case a_pen => k_is)
    (case l_pen => k_is)
    (case c_pen => k_is)
    (case k_pen => k_is)
    (case a_draw => k_is)
    (case l_draw => k_is)
    (case c_draw => k_is)
    (case k_draw => k_is)
    (case a_pick => k_is)
    (case l_pick => k_is)
    (case c_pick => k_is)
    (case k_pick => k_is)
    (case a_word => k_is)
    (case l_word => k_is)
    (case c_word => k_is)
    (case k_word => k_is)
    (case a_words => k_is)
    (case l_words => k_is)
    (case c_words => k_is)
    (case k_words => k_is)
    (case a_value => k_is)
    (case l_value => k_is)
    (case c_value => k_is)
    (case k_value => k_is)
    (case a_pull => k_is)
    (case l_pull => k_is)
    (case c_pull => k_is)
    (case k_pull => k_is)
    (case a_told => k_is)
    (case l_told => k_is)
    (case c_told => k_is)
    (case k_told => k_is)
    (case a_right => k_is)
    (case l_right => k_is)
    (case c_right => k_is)
    (case k_right => k_is)
    (case a_law => k_is)
    (case l_law => k_is)
    (case c_law => k_is)
    (case k_law => k_is)
    (case aC_Pull => k_is)
    (case pg_Pull => k_is)
    (case hd_Pull => k_is)
    (case po_Pull => k_is)
    (case sa_Pull => k_is)
    (case mk_Pull => k_is)
    (case kc_Pull => k_is)
    (case a_init => k_is)
    (case i_init => k_is)
    (case l_init => k_is)
    (case c_init => k_is)
    (case k_init => k_is)
    (case a_eq => k_is)
    (case i_eq => k_is)
    (case l_eq => k_is)
    (case c_eq => k_is)
    (case k_eq => k_is)
    (case a_str => k_is)
    (case i_str => k_is)
    (case l_str => k_is)
    (case c_str => k_is)
    (case k_str => k_is)
    (case n_word => k_is)
    (case n_at => k_is)
    (case n_left => k_is)
    (case n_right => k_is)
    (case ha => k_is)
    (case hn => k_is)
    (case htk => k_is)
    (case hm => k_is)
    (case ct => k_is)
    (case hne => k_is)
    (case z_len => k_is)
    (case z_int => k_is)
    (case z_abs => k_is)
    (case z_list => k_is)
    (case z_range => k_is)
    (case z_repr => k_is)
    (case z_str => k_is)
    (case z_tuple => k_is)
    (case z_isinstance => k_is)
