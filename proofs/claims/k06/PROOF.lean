import PyProof.Rows.All
import Wide.All
import OpenK.AllK
import Wide.FinOn
import HandS.ForMost
import HandS.Exc
import PyProof.ReprRoads
import KE.KEqNest
import HandS.More
import HandS.MakeKw
import HandS.TupAny
import HandS.Codes
import HandS.FStr
import HandS.RaiseMore
import HandS.Zip
import HandS.Style
import HandS.Walk
import HandS.IsInst
import KE.KCallOwn
import HandS.Set
import HandS.SetFor
import HandS.Strs
import PyProof.Rows.SortShellAny
import HandS.IterVal
import HandS.Star
import HandS.ClsMeth
import KE.LtData
import PyProof.StrLawsTight
import PyProof.StrLawsChain
import PyProof.Rows.StrItems
import HandS.Flow
import PySem.Challenge.RW_keptphrases_k06_whole_sets_of_words
set_option Elab.async false
set_option linter.all false
set_option maxRecDepth 100000
set_option maxHeartbeats 4000000
namespace Kq
open PySem PySem.Spec PyProof.Rows L2

/-! a def whose promise is asked for only where no guarded built-in is running -/
structure FnG (P : Program) (w : World) (K : PySem.W.Frag) (mg : Str → Option Value) (base : Heap) (CX : CXT) (k : Nat) (f : Addr) (fd : FuncData) (ps : List Str) (sp : Sp) : Prop where
  len : ∀ vs H Q E, sp vs H Q E → vs.length = ps.length
  run : ∀ (A : Around) (outer : List Env) (s : Shared) (H : Hp) (args : Args) (us : List Value) (vs : List V) (Q : VK) (E : XK),
    A.guards = some [] → Room k A → Env0 P w K mg base A outer s H → BindsTo s fd args (ps.zip us) → Vals vs us → sp vs H Q E →
      codeAny (model P w) A (.call (.ref f) args) (CR CX outer P w H s Q E) s

section
variable {P : Program} {w : World} {K : PySem.W.Frag} {mg : Str → Option Value} {base : Heap} {CX : CXT} {k : Nat} {f : Addr} {fd : FuncData} {N ps : List Str} {sp : Sp}
theorem FnG.ofOk (F : FnOk P w K mg base CX k f fd ps sp) : FnG P w K mg base CX k f fd ps sp :=
  ⟨F.len, fun A outer s H args us vs Q E _ => F.run A outer s H args us vs Q E⟩

/-- the body's rule, with the knowledge about guards -/
theorem Fun.okG {x qual : Str} {st : Stmt} (F : Fun K x qual st f fd) (S : FnScope N ps (defScope st)) (len : ∀ vs H Q E, sp vs H Q E → vs.length = ps.length)
    (hbody : ∀ (cdv : Value) (A : Around) (outer : List Env) (s : Shared) (H : Hp) (vs : List V) (Q : VK) (E : XK),
      (A.deeper (envOfC qual (defScope st) s.heap.objs.size f cdv)).guards = some [] →
      Room k (A.deeper (envOfC qual (defScope st) s.heap.objs.size f cdv)) → sp vs H Q E →
      ∃ t, PSs (cxOf CX P w K mg base N qual (defScope st) f cdv A outer s H E) (defBody st) t ∧ t { nx := fun _ H' => Q .non H', rt := Q } (start N vs) H) :
    FnG P w K mg base CX (k + 1) f fd ps sp := by
  obtain ⟨oc, od, kV, doc, pm, an, cdv, ct, osl, rfl, lk, hcd⟩ := F.ex
  constructor
  · exact len
  · intro A outer s H args us vs Q E hgd hr e0 hb r hsp
    -- the promise narrowed to this very call
    let sp1 : Sp := fun vs' H' Q' E' => vs' = vs ∧ H' = H ∧ Q' = Q ∧ E' = E
    have hl := len _ _ _ _ hsp
    have KX : K.In s.heap := e0.mod.kin.keeps fun b o e => (e0.bs b o e).1
    have lim : s.heap.NoLimit := e0.mod.nolimit.keeps fun b o e => (e0.bs b o e).1
    refine codeAny_call_function hr.depth (KX _ _ lk) rfl S.co S.gen rfl (PySem.W.codeRec_of KX hcd) (hb _ _ _ _ ?_)
    refine wpAny_newFunctionEnv_cells S.kind ?_ fun env he s1 x => ?_
    · rintro ⟨n, v⟩ hy
      rcases S.par n (List.of_mem_zip hy).1 with q | q
      · exact Or.inl q
      · exact Or.inr ⟨q, PySem.W.cellsFrom_some _ _ _ (.inl q)⟩
    subst he
    refine ⟨lim.keeps x.toInCall.keep, codeAny_func ?_⟩
    obtain ⟨t, ht, hq⟩ := hbody cdv A outer s H vs Q E hgd (hr.deeper _) hsp
    have I := inv_start (CX := CX) (E := E) S hr.hd e0 hl r x
    refine wpAny_mono (ht.run [] s1 (start N vs) H _ I hq) ?_ (fun e s' hs => hs)
    intro fl s' hs
    cases fl with
    | ret u =>
      obtain ⟨v, σ', H', J, rv, q⟩ := hs
      exact ⟨v, H', J.os, J.bare, J.base, J.hok, rv, q⟩
    | next =>
      obtain ⟨σ', H', J, q⟩ := hs
      exact ⟨V.non, H', J.os, J.bare, J.base, J.hok, rfl, q⟩
    | brk => obtain ⟨_, _, _, q⟩ := hs; exact q.elim
    | cont => obtain ⟨_, _, _, q⟩ := hs; exact q.elim
end

section
variable {X : Cx} {CX : CXT} {k : Nat} {f C : Addr} {fd : FuncData} {ps : List Str} {sp : Sp} {E : XK} {x m : Str} {p pos apos : Pos} {e o : Expr} {es : List Expr} {ta : TE} {t : TA}
/-- a call as an operation on values -/
theorem callG (F : FnG X.prog X.w X.K X.mg X.base CX k f fd ps sp) (hgd : X.A.guards = some []) (hr : Room k X.A) (hb : Binds X.K fd ps []) (hx : Passes CX X E) :
    CallR X (.ref f) (fun vs H Q => sp vs H Q E) := by
  intro pins s σ H vs us Q I r h
  have hl : us.length = ps.length := by rw [← r.length]; exact F.len _ _ _ _ h
  have hb1 := hb s us I.kIn (by simpa using hl)
  rw [List.append_nil] at hb1
  refine wpAny_call (codeAny_mono (F.run X.A X.stack s H ⟨us, []⟩ us vs Q E hgd hr I.env0 hb1 r h) ?_)
  intro r s' hq
  match r, hq with
  | .error e, hq => exact hx pins σ H s e s' I hq
  | .ok (.ret u), hq => exact I.after hq
theorem callO (F : FnOk X.prog X.w X.K X.mg X.base CX k f fd ps sp) (hr : Room k X.A) (hb : Binds X.K fd ps []) (hx : Passes CX X E) :
    CallR X (.ref f) (fun vs H Q => sp vs H Q E) := by
  intro pins s σ H vs us Q I r h
  exact run_fn F hr hb .nil hx I r (by rw [List.append_nil]; exact h)
/-- a global function called with positional arguments -/
theorem pe_callV {r : List V → Hp → VK → Prop} (hc : CallR X (.ref f) r) (hg : Gl X x) (hm : X.mg x = some (.ref f)) (hk : PySem.W.keepIn X.K (.ref f) = true)
    (ha : PA X (e :: es) t) (hdb : (x == ("__debug__" : Str)) = false := by decide) (he : starEach (e :: es) X.env = (false, eval e X.env) :: starEach es X.env := by rfl)
    (hpl : (backTo pos (starEach es X.env)).any (·.1) = false := by rfl) :
    PE X (.Call (.Name x p) (e :: es) [] pos) (tCB r t) := by
  constructor
  intro pins s σ H Q I h
  refine wpAny_Call_Name_kw (ld_glob I hg hm ?_ hdb)
  refine PySem.W.callWith_K (h₀ := X.base) I.ok.mod.kin hk (thn (ha.run pos pins s σ H _ I h) ?_) he hpl
  rintro us s1 ⟨vs, H1, I1, r1, q⟩
  exact ⟨I1.kIn, hc pins s1 σ H1 vs us Q I1 r1 q⟩
theorem pe_callV0 {r : List V → Hp → VK → Prop} (hc : CallR X (.ref f) r) (hg : Gl X x) (hm : X.mg x = some (.ref f)) (hk : PySem.W.keepIn X.K (.ref f) = true)
    (hdb : (x == ("__debug__" : Str)) = false := by decide) : PE X (.Call (.Name x p) [] [] pos) (tCB r tNil) := by
  constructor
  intro pins s σ H Q I h
  exact wpAny_Call_Name_kw (ld_glob I hg hm (PySem.W.callWith_K0 I.kIn hk (hc pins s σ H [] [] Q I .nil h)) hdb)
end

/-! what a global name promises -/
structure Prom (P : Program) (w : World) (K : PySem.W.Frag) (mg : Str → Option Value) (base : Heap) (k : Nat) (x : Str) (ps : List Str) (sp : Sp) : Prop where
  ex : ∃ f fd, mg x = some (.ref f) ∧ PySem.W.keepIn K (.ref f) = true ∧ Binds K fd ps [] ∧ FnOk P w K mg base CX0 k f fd ps sp
structure PromG (P : Program) (w : World) (K : PySem.W.Frag) (mg : Str → Option Value) (base : Heap) (k : Nat) (x : Str) (ps : List Str) (sp : Sp) : Prop where
  ex : ∃ f fd, mg x = some (.ref f) ∧ PySem.W.keepIn K (.ref f) = true ∧ Binds K fd ps [] ∧ FnG P w K mg base CX0 k f fd ps sp
def spC (sp : Sp) : List V → Hp → VK → Prop := fun vs H Q => sp vs H Q E0
section
variable {X : Cx} {k j : Nat} {ps : List Str} {sp : Sp} {x : Str} {p pos : Pos} {e : Expr} {es : List Expr} {t : TA}
theorem pe_p (F : Prom X.prog X.w X.K X.mg X.base k x ps sp) (hr : Room j X.A) (hj : k ≤ j) (ha : PA X (e :: es) t) (hg : Gl X x := by rfl)
    (hdb : (x == ("__debug__" : Str)) = false := by decide) (he : starEach (e :: es) X.env = (false, eval e X.env) :: starEach es X.env := by rfl)
    (hpl : (backTo pos (starEach es X.env)).any (·.1) = false := by rfl) : PE X (.Call (.Name x p) (e :: es) [] pos) (tCB (spC sp) t) := by
  obtain ⟨f, fd, hm, hk, hb, G⟩ := F.ex
  exact pe_callV (callO G (hr.mono hj) hb pass0) hg hm hk ha hdb he hpl
theorem pe_p0 (F : Prom X.prog X.w X.K X.mg X.base k x ps sp) (hr : Room j X.A) (hj : k ≤ j) (hg : Gl X x := by rfl)
    (hdb : (x == ("__debug__" : Str)) = false := by decide) : PE X (.Call (.Name x p) [] [] pos) (tCB (spC sp) tNil) := by
  obtain ⟨f, fd, hm, hk, hb, G⟩ := F.ex
  exact pe_callV0 (callO G (hr.mono hj) hb pass0) hg hm hk hdb
theorem pe_g (F : PromG X.prog X.w X.K X.mg X.base k x ps sp) (hgd : X.A.guards = some []) (hr : Room j X.A) (hj : k ≤ j) (ha : PA X (e :: es) t) (hg : Gl X x := by rfl)
    (hdb : (x == ("__debug__" : Str)) = false := by decide) (he : starEach (e :: es) X.env = (false, eval e X.env) :: starEach es X.env := by rfl)
    (hpl : (backTo pos (starEach es X.env)).any (·.1) = false := by rfl) : PE X (.Call (.Name x p) (e :: es) [] pos) (tCB (spC sp) t) := by
  obtain ⟨f, fd, hm, hk, hb, G⟩ := F.ex
  exact pe_callV (callG G hgd (hr.mono hj) hb pass0) hg hm hk ha hdb he hpl
end
end Kq

namespace Kq
open PySem PySem.Spec PyProof.Rows L2

/-! ## plain data in the abstract heap. T: the only dict that may stand in it -/
abbrev Tb := List (Key × V)
def kD : Key → PyData
  | .inl i => .int i
  | .inr x => .str x
def vD : V → PyData
  | .bl b => .bool b
  | .int i => .int i
  | .str x => .str x
  | _ => .none
def tD (T : Tb) : PyData := .dict (T.map fun q => (kD q.1, vD q.2))
mutual
inductive Dq (T : Tb) (H : Hp) : V → PyData → Prop
  | non : Dq T H .non .none
  | bl (b : Bool) : Dq T H (.bl b) (.bool b)
  | int (i : Int) : Dq T H (.int i) (.int i)
  | str (x : Str) : Dq T H (.str x) (.str x)
  | lst {a : Addr} {xs : List V} {ds : List PyData} : H a = some (.lst xs) → Dqs T H xs ds → Dq T H (.ref a) (.list ds)
  | tup {a : Addr} {xs : List V} {ds : List PyData} : H a = some (.tup xs) → Dqs T H xs ds → Dq T H (.ref a) (.tuple ds)
  | dct {a : Addr} : H a = some (.dK T) → Dq T H (.ref a) (tD T)
inductive Dqs (T : Tb) (H : Hp) : List V → List PyData → Prop
  | nil : Dqs T H [] []
  | cons {v : V} {vs : List V} {d : PyData} {ds : List PyData} : Dq T H v d → Dqs T H vs ds → Dqs T H (v :: vs) (d :: ds)
end
mutual
theorem Dq.mono {T : Tb} {H H' : Hp} (h : Same H H') : ∀ {v : V} {d : PyData}, Dq T H v d → Dq T H' v d
  | _, _, .non => .non
  | _, _, .bl b => .bl b
  | _, _, .int i => .int i
  | _, _, .str x => .str x
  | _, _, .lst e q => .lst (h _ _ e) (Dqs.mono h q)
  | _, _, .tup e q => .tup (h _ _ e) (Dqs.mono h q)
  | _, _, .dct e => .dct (h _ _ e)
theorem Dqs.mono {T : Tb} {H H' : Hp} (h : Same H H') : ∀ {v : List V} {d : List PyData}, Dqs T H v d → Dqs T H' v d
  | _, _, .nil => .nil
  | _, _, .cons a b => .cons (Dq.mono h a) (Dqs.mono h b)
end
theorem Dqs.length {T : Tb} {H : Hp} : ∀ {vs : List V} {ds : List PyData}, Dqs T H vs ds → vs.length = ds.length
  | _, _, .nil => rfl
  | _, _, .cons _ b => congrArg Nat.succ (Dqs.length b)
theorem Dqs.get {T : Tb} {H : Hp} : ∀ {vs : List V} {ds : List PyData} {i : Nat} {v : V}, Dqs T H vs ds → vs[i]? = some v → ∃ d, ds[i]? = some d ∧ Dq T H v d
  | _, _, _, _, .nil, e => by simp at e
  | _, _, 0, _, .cons a _, e => by simp at e; subst e; exact ⟨_, rfl, a⟩
  | _, _, i + 1, v, .cons _ b, e => by
    obtain ⟨d, h1, h2⟩ := Dqs.get (i := i) b (by simpa using e)
    exact ⟨d, by simpa using h1, h2⟩
theorem Dqs.app {T : Tb} {H : Hp} : ∀ {vs ws : List V} {ds es : List PyData}, Dqs T H vs ds → Dqs T H ws es → Dqs T H (vs ++ ws) (ds ++ es)
  | _, _, _, _, .nil, h => h
  | _, _, _, _, .cons a b, h => .cons a (Dqs.app b h)
theorem Dqs.take {T : Tb} {H : Hp} : ∀ {vs : List V} {ds : List PyData} (n : Nat), Dqs T H vs ds → Dqs T H (vs.take n) (ds.take n)
  | _, _, 0, _ => .nil
  | _, _, _ + 1, .nil => .nil
  | _, _, n + 1, .cons a b => .cons a (Dqs.take n b)
theorem Dqs.drop {T : Tb} {H : Hp} : ∀ {vs : List V} {ds : List PyData} (n : Nat), Dqs T H vs ds → Dqs T H (vs.drop n) (ds.drop n)
  | _, _, 0, h => h
  | _, _, _ + 1, .nil => .nil
  | _, _, n + 1, .cons _ b => Dqs.drop n b
theorem Dqs.rev {T : Tb} {H : Hp} : ∀ {vs : List V} {ds : List PyData}, Dqs T H vs ds → Dqs T H vs.reverse ds.reverse
  | _, _, .nil => .nil
  | _, _, .cons a b => by
    rw [List.reverse_cons, List.reverse_cons]
    exact Dqs.app (Dqs.rev b) (.cons a .nil)
theorem Dqs.strs {T : Tb} {H : Hp} : ∀ (xs : List Str), Dqs T H (xs.map V.str) (xs.map PyData.str)
  | [] => .nil
  | x :: xs => .cons (.str x) (Dqs.strs xs)
theorem Dqs.ints {T : Tb} {H : Hp} : ∀ (xs : List Int), Dqs T H (xs.map V.int) (xs.map PyData.int)
  | [] => .nil
  | x :: xs => .cons (.int x) (Dqs.ints xs)
theorem Dqs.rep {T : Tb} {H : Hp} {v : V} {d : PyData} (h : Dq T H v d) : ∀ n, Dqs T H (List.replicate n v) (List.replicate n d)
  | 0 => .nil
  | n + 1 => .cons h (Dqs.rep h n)
/-- the dicts of a table are flat -/
def flat1 : V → Bool
  | .byt _ => false
  | .flt _ => false
  | .ref _ => false
  | .ty _ => false
  | _ => true
def flatT (T : Tb) : Bool := T.all fun q => flat1 q.2

/-! ### it is read -/
section
variable {T : Tb} {X : Cx} {pins : List (Addr × Obj)} {σ : L2.St} {H : Hp} {s : Shared}
/-- no dict of the model's own is tracked -/
def NoSys (X : Cx) : Prop := ∃ o, X.base.get? sysModules = some o
theorem NoSys.ne (h1 : NoSys X) (I : Inv X pins σ H s) {a : Addr} {o : HO} (e : H a = some o) : a ≠ sysModules := by
  rintro rfl
  obtain ⟨ob, ho⟩ := h1
  have := (I.bs _ _ ho).2
  rw [e] at this
  cases this
theorem keys_read {P : Program} {w : World} {h : Heap} : ∀ {es : List DictEntry} {kvs : List (Key × Value)}, Pairs (mixKind P w) es kvs → ReadsAll h (es.map (·.key)) (kvs.map fun q => kD q.1) []
  | _, _, .nil => .nil
  | _, _, .cons (kv := (k, v)) a _ r => by
    have q := keys_read (h := h) r
    rcases keyIs_shape a with ⟨i, t, e1, e2⟩ | ⟨x, t, e1, e2⟩
    · have e1' : k = .inl i := e1
      subst e1'
      simp only [List.map_cons, e2]
      exact ReadsAll.cons (as := []) (Reads.int i t) q
    · have e1' : k = .inr x := e1
      subst e1'
      simp only [List.map_cons, e2]
      exact ReadsAll.cons (as := []) (Reads.str x t) q
theorem vals_read {P : Program} {w : World} {h : Heap} : ∀ {es : List DictEntry} {kvs : List (Key × Value)} {T : Tb}, Pairs (mixKind P w) es kvs → KV T kvs → flatT T = true → ReadsAll h (es.map (·.val)) (T.map fun q => vD q.2) []
  | _, _, _, .nil, r, _ => by cases r; exact .nil
  | _, _, _, .cons (kv := (k, v)) _ e r, rk, ft => by
    cases rk with
    | cons h1 h2 =>
      rename_i p T'
      obtain ⟨k', x⟩ := p
      have ft' : flat1 x = true ∧ flatT T' = true := by
        unfold flatT at ft
        rw [List.all_cons, Bool.and_eq_true] at ft
        exact ft
      have q := vals_read (h := h) r h2 ft'.2
      have e' : (_ : DictEntry).val = v := e
      have rv : RelV x v := h1.2
      simp only [List.map_cons, e']
      cases x with
      | non => cases rv; exact ReadsAll.cons (as := []) Reads.none q
      | bl b => cases rv; exact ReadsAll.cons (as := []) (Reads.bool b) q
      | int i => obtain ⟨t, rfl⟩ := rv; exact ReadsAll.cons (as := []) (Reads.int i t) q
      | str y => obtain ⟨t, rfl⟩ := rv; exact ReadsAll.cons (as := []) (Reads.str y t) q
      | byt b => exact absurd (show false = true from ft'.1) Bool.false_ne_true
      | flt b => exact absurd (show false = true from ft'.1) Bool.false_ne_true
      | ref b => exact absurd (show false = true from ft'.1) Bool.false_ne_true
      | ty b => exact absurd (show false = true from ft'.1) Bool.false_ne_true
theorem keys_same {T : Tb} {vs : List (Key × Value)} (r : KV T vs) : T.map (·.1) = vs.map (·.1) := by
  induction r with
  | nil => rfl
  | cons h _ ih => rw [List.map_cons, List.map_cons, ih, h.1]
mutual
theorem Dq.reads (h1 : NoSys X) (I : Inv X pins σ H s) (hT : flatT T = true) : ∀ {v : V} {d : PyData} (u : Value), Dq T H v d → RelV v u → ∃ as, Reads s.heap u d as ∧ sysModules ∉ as
  | _, _, _, .non, r => by cases r; exact ⟨_, Reads.none, by simp⟩
  | _, _, _, .bl b, r => by cases r; exact ⟨_, Reads.bool b, by simp⟩
  | _, _, _, .int i, r => by obtain ⟨t, rfl⟩ := r; exact ⟨_, Reads.int i t, by simp⟩
  | _, _, _, .str x, r => by obtain ⟨t, rfl⟩ := r; exact ⟨_, Reads.str x t, by simp⟩
  | _, _, _, .lst (a := a) (xs := xs) e q, r => by
    cases r
    obtain ⟨z, its, n, rv, hget⟩ : ObjOk X.prog X.w H s.heap a (.lst xs) := I.hok _ _ e
    obtain ⟨as, hr, hn⟩ := Dqs.reads h1 I hT its q rv
    exact ⟨a :: as, Reads.list hget rfl rfl hr, by
      intro hm
      rcases List.mem_cons.mp hm with z | z
      · exact h1.ne I e z.symm
      · exact hn z⟩
  | _, _, _, .tup (a := a) (xs := xs) e q, r => by
    cases r
    obtain ⟨z, its, rv, o, ho, hc, n, hd⟩ : ObjOk X.prog X.w H s.heap a (.tup xs) := I.hok _ _ e
    obtain ⟨as, hr, hn⟩ := Dqs.reads h1 I hT its q rv
    exact ⟨as, Reads.tuple ho hc hd hr, hn⟩
  | _, _, _, .dct (a := a) e, r => by
    cases r
    obtain ⟨z, hy, vs, rv, o, es, ep, ho, hx, hd, hk, hp, nd⟩ : ObjOk X.prog X.w H s.heap a (.dK T) := I.hok _ _ e
    have k1 := keys_read (h := s.heap) hp
    have k2 := vals_read (h := s.heap) hp rv hT
    have e1 : (vs.map fun q => kD q.1) = T.map fun q => kD q.1 := by
      have := congrArg (List.map kD) (keys_same rv)
      rw [List.map_map, List.map_map] at this
      exact this.symm
    rw [e1] at k1
    have k1' : ReadsAll s.heap (es.toList.map (·.key)) ((T.map fun q => (kD q.1, vD q.2)).map (·.1)) [] := by rw [List.map_map]; exact k1
    have k2' : ReadsAll s.heap (es.toList.map (·.val)) ((T.map fun q => (kD q.1, vD q.2)).map (·.2)) [] := by rw [List.map_map]; exact k2
    refine ⟨a :: ([] ++ []), Reads.dict ho hx.1 hd k1' k2', ?_⟩
    · intro hm
      rcases List.mem_cons.mp hm with z | z
      · exact h1.ne I e z.symm
      · simp at z
theorem Dqs.reads (h1 : NoSys X) (I : Inv X pins σ H s) (hT : flatT T = true) : ∀ {vs : List V} {ds : List PyData} (us : List Value), Dqs T H vs ds → Vals vs us → ∃ as, ReadsAll s.heap us ds as ∧ sysModules ∉ as
  | _, _, _, .nil, r => by cases r; exact ⟨_, ReadsAll.nil, by simp⟩
  | _, _, _, .cons a b, r => by
    cases r with
    | cons r1 r2 =>
      obtain ⟨as, q1, n1⟩ := Dq.reads h1 I hT _ a r1
      obtain ⟨bs, q2, n2⟩ := Dqs.reads h1 I hT _ b r2
      exact ⟨as ++ bs, ReadsAll.cons q1 q2, fun hm => (List.mem_append.mp hm).elim n1 n2⟩
end
end

/-! ### repr -/
def rRepr (T : Tb) : List V → Hp → VK → Prop := fun xs H Q => ∃ x a d, xs = [x] ∧ x = .ref a ∧ Dq T H x d ∧ d.showable = true ∧ d.depth ≤ 30 ∧ d.shown.length ≤ sizeLine ∧ Q (.str d.shown) H
theorem call_repr {T : Tb} {X : Cx} (h1 : NoSys X) (hT : flatT T = true) (hgd : X.A.guards = some []) (hu : X.A.units + 64 < cLine) : CallR X (.builtin "repr") (rRepr T) := by
  intro pins s σ H xs us Q I r h
  obtain ⟨x, a, d, rfl, rfl, hd, hs, hp, hz, q⟩ := h
  cases r with
  | cons rx rr =>
    cases rr
    cases rx
    obtain ⟨as, hr, hn⟩ := Dq.reads h1 I hT _ hd rfl
    refine repr_of_reads' hr hs (fun _ => hn) hgd (by omega) (fun _ _ e => e) (fun h' u tk hk => ?_) hz
    exact ⟨.str d.shown, H, I.kept hk, ⟨u, rfl⟩, q⟩
end Kq

namespace Kq
open PySem PySem.Spec PyProof.Rows L2
open PySem.SeqAt PySem.MeetsSeq
open PySem.AutoSeq1 (wpAny_loadPart')

/-! ## == of plain data -/
abbrev dictO (es : Array DictEntry) (ep : Nat) : Obj := { cls := .type "dict", dict := none, data := .dict es ep, slots := #[] }
theorem exact_eq {o : Obj} {es : Array DictEntry} {ep : Nat} (h : o.ExactDict) (hd : o.data = .dict es ep) : o = dictO es ep := by
  obtain ⟨c, d, dt, sl⟩ := o
  obtain ⟨h1, h2, h3⟩ := h
  simp only at h1 h2 h3 hd
  subst h1 h2 h3 hd
  rfl
theorem int_declines_dict (b : Int) (u : Tok) (l : Addr) (es : Array DictEntry) (ep : Nat) :
    Meets (Builtin.«int.__eq__» ⟨[.int b u, .ref l], []⟩) (fun _ R s => s.heap.get? l = some (dictO es ep) ∧ R (.ok (.ret .notImplemented)) s) :=
  .of_wp fun prog w A R s h => by
    obtain ⟨hp, g, d, tk, os⟩ := s; obtain ⟨hl, h⟩ := h
    unfold dictO at hl
    wp_walk using wpAny_loadPart' hl, wpAny_load hl
    exact ⟨_, rfl, h⟩
theorem bool_declines_dict (b : Bool) (l : Addr) (es : Array DictEntry) (ep : Nat) :
    Meets (Builtin.«int.__eq__» ⟨[.bool b, .ref l], []⟩) (fun _ R s => s.heap.get? l = some (dictO es ep) ∧ R (.ok (.ret .notImplemented)) s) :=
  .of_wp fun prog w A R s h => by
    obtain ⟨hp, g, d, tk, os⟩ := s; obtain ⟨hl, h⟩ := h
    unfold dictO at hl
    wp_walk using wpAny_loadPart' hl, wpAny_load hl
    exact ⟨_, rfl, h⟩
theorem str_declines_dict (b : Str) (u : Tok) (l : Addr) (es : Array DictEntry) (ep : Nat) :
    Meets (Builtin.«str.__eq__» ⟨[.str b u, .ref l], []⟩) (fun _ R s => s.heap.get? l = some (dictO es ep) ∧ R (.ok (.ret .notImplemented)) s) :=
  .of_wp fun prog w A R s h => by
    obtain ⟨hp, g, d, tk, os⟩ := s; obtain ⟨hl, h⟩ := h
    unfold dictO at hl
    wp_walk using wpAny_loadPart' hl, wpAny_load hl
    exact ⟨_, rfl, h⟩
theorem list_declines_dict (l b : Addr) (items : Array Value) (n : Nat) (dd : Option Addr) (sl : Array (Option Value)) (es : Array DictEntry) (ep : Nat) :
    Meets (Builtin.«list.__eq__» ⟨[.ref l, .ref b], []⟩) (fun _ R s => s.heap.get? l = some { cls := .type "list", dict := dd, data := .seq items n, slots := sl } ∧ s.heap.get? b = some (dictO es ep) ∧ R (.ok (.ret .notImplemented)) s) :=
  .of_wp fun prog w A R s h => by
    obtain ⟨hp, g, d, tk, os⟩ := s; obtain ⟨hl, hb, h⟩ := h
    unfold dictO at hb
    have f1 := F.sub_dict_list
    wp_walk using wpAny_loadPart' hl, wpAny_loadPart' hb
    exact ⟨_, rfl, h⟩
theorem tuple_declines_dict (l b : Addr) (items : Array Value) (n : Nat) (dd : Option Addr) (sl : Array (Option Value)) (es : Array DictEntry) (ep : Nat) :
    Meets (Builtin.«tuple.__eq__» ⟨[.ref l, .ref b], []⟩) (fun _ R s => s.heap.get? l = some { cls := .type "tuple", dict := dd, data := .seq items n, slots := sl } ∧ s.heap.get? b = some (dictO es ep) ∧ R (.ok (.ret .notImplemented)) s) :=
  .of_wp fun prog w A R s h => by
    obtain ⟨hp, g, d, tk, os⟩ := s; obtain ⟨hl, hb, h⟩ := h
    unfold dictO at hb
    have f1 := F.sub_dict_tuple
    wp_walk using wpAny_loadPart' hl, wpAny_loadPart' hb
    exact ⟨_, rfl, h⟩
section
variable {prog : Program} {w : World} {A : Around} {E : Value → Shared → Prop} {s : Shared} {Q : Value → Shared → Prop} {a l : Addr} {es : Array DictEntry} {ep : Nat}
theorem dict_declines {x : Value} {Ty : String} (ha : s.heap.get? a = some (dictO es ep)) (hx : s.TypeIs x Ty) (hsub : isSubtype (.type Ty) (.type "dict") = pure false) (h : Q .notImplemented s) :
    wpAny (model prog w) A (call (.builtin "dict.__eq__") [.ref a, x]) Q E s := by
  have ht : s.TypeIs (.ref a) "dict" := ⟨_, ha, rfl⟩
  refine wpAny_call_entry PySem.F.slot_dict_eq ht PySem.F.entry_dict_eq ?_ (PySem.F.args_dict_eq_2 _ _)
  show wpAny _ _ (Builtin.Dict.dictSlotArgs "__eq__" ⟨[.ref a, x], []⟩ >>= _) _ _ s
  refine wpAny_bind ?_
  unfold Builtin.Dict.dictSlotArgs
  refine wpAny_bind (wpAny_notOrdered_dict ht ?_)
  show wpAny _ _ (pure (Value.ref a, x)) _ _ s
  refine wpAny_pure ?_
  refine wpAny_bind (wpAny_isInstance (T := Ty) hx hsub ?_)
  simp only [Bool.not_false, if_true]
  exact wpAny_bind (wpAny_rule (wpAny_pure ⟨_, rfl, h⟩))
theorem rc_dict_none (ha : s.heap.get? a = some (dictO es ep)) (hu : A.units < cLine) (h : Q (.bool false) s) : wpAny (model prog w) A (richCompare .Eq (.ref a) .none) Q E s :=
  rc_eq_decline_or (k := false) ⟨_, ha, rfl⟩ rfl (by decide) F.sub_NoneType_dict F.slot_dict_eq F.slot_NoneType_eq_refl
    (fun _ hq => dict_declines ha rfl F.sub_NoneType_dict hq)
    (fun _ hq => call_gives F.slot_NoneType_eq_refl rfl F.entry_NoneType_eq (F.args_NoneType_eq_2 _ _) (NoneType___eq___none_ref_0 a) hq)
    (fun _ hq => wpAny_of_eq (rfl : isSame (.ref a) .none = pure false) hq) (.inr hu) h
theorem rc_none_dict (ha : s.heap.get? a = some (dictO es ep)) (hu : A.units < cLine) (h : Q (.bool false) s) : wpAny (model prog w) A (richCompare .Eq .none (.ref a)) Q E s :=
  rc_eq_decline_or (k := false) rfl ⟨_, ha, rfl⟩ (by decide) F.sub_dict_NoneType F.slot_NoneType_eq F.slot_dict_eq
    (fun _ hq => call_gives F.slot_NoneType_eq rfl F.entry_NoneType_eq (F.args_NoneType_eq_2 _ _) (NoneType___eq___none_ref_0 a) hq)
    (fun _ hq => dict_declines ha rfl F.sub_NoneType_dict hq)
    (fun _ hq => wpAny_of_eq (rfl : isSame .none (.ref a) = pure false) hq) (.inr hu) h
theorem rc_dict_bool (b : Bool) (ha : s.heap.get? a = some (dictO es ep)) (hu : A.units < cLine) (h : Q (.bool false) s) : wpAny (model prog w) A (richCompare .Eq (.ref a) (.bool b)) Q E s :=
  rc_eq_decline_or (k := false) ⟨_, ha, rfl⟩ rfl (by decide) F.sub_bool_dict F.slot_dict_eq F.slot_bool_eq_refl
    (fun _ hq => dict_declines ha rfl F.sub_bool_dict hq)
    (fun _ hq => call_meets F.slot_bool_eq_refl rfl F.entry_int_eq (F.args_int_eq_2 _ _) (bool_declines_dict b a es ep) ⟨ha, hq⟩)
    (fun _ hq => wpAny_of_eq (rfl : isSame (.ref a) (.bool b) = pure false) hq) (.inr hu) h
theorem rc_bool_dict (b : Bool) (ha : s.heap.get? a = some (dictO es ep)) (hu : A.units < cLine) (h : Q (.bool false) s) : wpAny (model prog w) A (richCompare .Eq (.bool b) (.ref a)) Q E s :=
  rc_eq_decline_or (k := false) rfl ⟨_, ha, rfl⟩ (by decide) F.sub_dict_bool F.slot_bool_eq F.slot_dict_eq
    (fun _ hq => call_meets F.slot_bool_eq rfl F.entry_int_eq (F.args_int_eq_2 _ _) (bool_declines_dict b a es ep) ⟨ha, hq⟩)
    (fun _ hq => dict_declines ha rfl F.sub_bool_dict hq)
    (fun _ hq => wpAny_of_eq (rfl : isSame (.bool b) (.ref a) = pure false) hq) (.inr hu) h
theorem rc_dict_int (b : Int) (u : Tok) (ha : s.heap.get? a = some (dictO es ep)) (hu : A.units < cLine) (h : Q (.bool false) s) : wpAny (model prog w) A (richCompare .Eq (.ref a) (.int b u)) Q E s :=
  rc_eq_decline_or (k := false) ⟨_, ha, rfl⟩ (typeIs_int _ _ _) (by decide) F.sub_int_dict F.slot_dict_eq F.slot_int_eq_refl
    (fun _ hq => dict_declines ha (typeIs_int _ _ _) F.sub_int_dict hq)
    (fun _ hq => call_meets F.slot_int_eq_refl (typeIs_int _ _ _) F.entry_int_eq (F.args_int_eq_2 _ _) (int_declines_dict b u a es ep) ⟨ha, hq⟩)
    (fun _ hq => wpAny_of_eq (rfl : isSame (.ref a) (.int b u) = pure false) hq) (.inr hu) h
theorem rc_int_dict (b : Int) (u : Tok) (ha : s.heap.get? a = some (dictO es ep)) (hu : A.units < cLine) (h : Q (.bool false) s) : wpAny (model prog w) A (richCompare .Eq (.int b u) (.ref a)) Q E s :=
  rc_eq_decline_or (k := false) (typeIs_int _ _ _) ⟨_, ha, rfl⟩ (by decide) F.sub_dict_int F.slot_int_eq F.slot_dict_eq
    (fun _ hq => call_meets F.slot_int_eq (typeIs_int _ _ _) F.entry_int_eq (F.args_int_eq_2 _ _) (int_declines_dict b u a es ep) ⟨ha, hq⟩)
    (fun _ hq => dict_declines ha (typeIs_int _ _ _) F.sub_int_dict hq)
    (fun _ hq => wpAny_of_eq (rfl : isSame (.int b u) (.ref a) = pure false) hq) (.inr hu) h
theorem rc_dict_str (b : Str) (u : Tok) (ha : s.heap.get? a = some (dictO es ep)) (hu : A.units < cLine) (h : Q (.bool false) s) : wpAny (model prog w) A (richCompare .Eq (.ref a) (.str b u)) Q E s :=
  rc_eq_decline_or (k := false) ⟨_, ha, rfl⟩ (typeIs_str _ _ _) (by decide) F.sub_str_dict F.slot_dict_eq F.slot_str_eq_refl
    (fun _ hq => dict_declines ha (typeIs_str _ _ _) F.sub_str_dict hq)
    (fun _ hq => call_meets F.slot_str_eq_refl (typeIs_str _ _ _) F.entry_str_eq (F.args_str_eq_2 _ _) (str_declines_dict b u a es ep) ⟨ha, hq⟩)
    (fun _ hq => wpAny_of_eq (rfl : isSame (.ref a) (.str b u) = pure false) hq) (.inr hu) h
theorem rc_str_dict (b : Str) (u : Tok) (ha : s.heap.get? a = some (dictO es ep)) (hu : A.units < cLine) (h : Q (.bool false) s) : wpAny (model prog w) A (richCompare .Eq (.str b u) (.ref a)) Q E s :=
  rc_eq_decline_or (k := false) (typeIs_str _ _ _) ⟨_, ha, rfl⟩ (by decide) F.sub_dict_str F.slot_str_eq F.slot_dict_eq
    (fun _ hq => call_meets F.slot_str_eq (typeIs_str _ _ _) F.entry_str_eq (F.args_str_eq_2 _ _) (str_declines_dict b u a es ep) ⟨ha, hq⟩)
    (fun _ hq => dict_declines ha (typeIs_str _ _ _) F.sub_str_dict hq)
    (fun _ hq => wpAny_of_eq (rfl : isSame (.str b u) (.ref a) = pure false) hq) (.inr hu) h
theorem ne_cls {x y : Addr} {ox oy : Obj} (hx : s.heap.get? x = some ox) (hy : s.heap.get? y = some oy) (hc : ox.cls ≠ oy.cls) : x ≠ y := by
  rintro rfl
  rw [hx] at hy
  cases hy
  exact hc rfl
theorem rc_dict_list {items : Array Value} (ha : s.heap.get? a = some (dictO es ep)) (hl : s.heap.IsList l items) (hu : A.units < cLine) (h : Q (.bool false) s) : wpAny (model prog w) A (richCompare .Eq (.ref a) (.ref l)) Q E s := by
  obtain ⟨⟨cls, dd, data, sl⟩, ho, hc, n, hd⟩ := id hl
  simp only at hc hd
  subst hc hd
  exact rc_eq_decline_or (k := false) ⟨_, ha, rfl⟩ ⟨_, ho, rfl⟩ (by decide) F.sub_list_dict F.slot_dict_eq F.slot_list_eq_refl
    (fun _ hq => dict_declines ha ⟨_, ho, rfl⟩ F.sub_list_dict hq)
    (fun _ hq => call_meets F.slot_list_eq_refl ⟨_, ho, rfl⟩ F.entry_list_eq (F.args_list_eq_2 _ _) (list_declines_dict l a items n dd sl es ep) ⟨ho, ha, hq⟩)
    (fun _ hq => wpAny_isSame_ref_other' (ne_cls ha ho (by show Value.type _ ≠ Value.type _; decide)) ha ho (by show Value.type _ ≠ Value.type _; decide) hq) (.inr hu) h
theorem rc_list_dict {items : Array Value} (ha : s.heap.get? a = some (dictO es ep)) (hl : s.heap.IsList l items) (hu : A.units < cLine) (h : Q (.bool false) s) : wpAny (model prog w) A (richCompare .Eq (.ref l) (.ref a)) Q E s := by
  obtain ⟨⟨cls, dd, data, sl⟩, ho, hc, n, hd⟩ := id hl
  simp only at hc hd
  subst hc hd
  exact rc_eq_decline_or (k := false) ⟨_, ho, rfl⟩ ⟨_, ha, rfl⟩ (by decide) F.sub_dict_list F.slot_list_eq F.slot_dict_eq
    (fun _ hq => call_meets F.slot_list_eq ⟨_, ho, rfl⟩ F.entry_list_eq (F.args_list_eq_2 _ _) (list_declines_dict l a items n dd sl es ep) ⟨ho, ha, hq⟩)
    (fun _ hq => dict_declines ha ⟨_, ho, rfl⟩ F.sub_list_dict hq)
    (fun _ hq => wpAny_isSame_ref_other' (ne_cls ho ha (by show Value.type _ ≠ Value.type _; decide)) ho ha (by show Value.type _ ≠ Value.type _; decide) hq) (.inr hu) h
theorem rc_dict_tuple {items : Array Value} (ha : s.heap.get? a = some (dictO es ep)) (hl : s.heap.IsTuple l items) (hu : A.units < cLine) (h : Q (.bool false) s) : wpAny (model prog w) A (richCompare .Eq (.ref a) (.ref l)) Q E s := by
  obtain ⟨⟨cls, dd, data, sl⟩, ho, hc, n, hd⟩ := id hl
  simp only at hc hd
  subst hc hd
  have hne : a ≠ l := ne_cls ha ho (by show Value.type _ ≠ Value.type _; decide)
  refine rc_eq_decline_or (k := false) ⟨_, ha, rfl⟩ ⟨_, ho, rfl⟩ (by decide) F.sub_tuple_dict F.slot_dict_eq F.slot_tuple_eq_refl
    (fun _ hq => dict_declines ha ⟨_, ho, rfl⟩ F.sub_tuple_dict hq)
    (fun _ hq => call_meets F.slot_tuple_eq_refl ⟨_, ho, rfl⟩ F.entry_tuple_eq (F.args_tuple_eq_2 _ _) (tuple_declines_dict l a items n dd sl es ep) ⟨ho, ha, hq⟩)
    (fun Q' hq => ?_) (.inr hu) h
  show wpAny (model prog w) A (if (a == l) = true then pure true else _) Q' E s
  rw [if_neg (by simpa using hne)]
  refine wpAny_bind (wpAny_load ha (wpAny_bind (wpAny_load ho ?_)))
  exact wpAny_pure hq
theorem rc_tuple_dict {items : Array Value} (ha : s.heap.get? a = some (dictO es ep)) (hl : s.heap.IsTuple l items) (hu : A.units < cLine) (h : Q (.bool false) s) : wpAny (model prog w) A (richCompare .Eq (.ref l) (.ref a)) Q E s := by
  obtain ⟨⟨cls, dd, data, sl⟩, ho, hc, n, hd⟩ := id hl
  simp only at hc hd
  subst hc hd
  exact rc_eq_decline_or (k := false) ⟨_, ho, rfl⟩ ⟨_, ha, rfl⟩ (by decide) F.sub_dict_tuple F.slot_tuple_eq F.slot_dict_eq
    (fun _ hq => call_meets F.slot_tuple_eq ⟨_, ho, rfl⟩ F.entry_tuple_eq (F.args_tuple_eq_2 _ _) (tuple_declines_dict l a items n dd sl es ep) ⟨ho, ha, hq⟩)
    (fun _ hq => dict_declines ha ⟨_, ho, rfl⟩ F.sub_tuple_dict hq)
    (fun _ hq => wpAny_isSame_ref_other' (ne_cls ho ha (by show Value.type _ ≠ Value.type _; decide)) ho ha (by show Value.type _ ≠ Value.type _; decide) hq) (.inr hu) h
end
end Kq

namespace Kq
open PySem PySem.Spec PyProof.Rows L2
open PySem.SeqAt PySem.MeetsSeq

mutual
def nrm : PyData → PyData
  | .none => .none
  | .bool b => .int (if b then 1 else 0)
  | .int i => .int i
  | .str x => .str x
  | .list xs => .list (nrms xs)
  | .tuple xs => .tuple (nrms xs)
  | .dict kvs => .dict kvs
def nrms : List PyData → List PyData
  | [] => []
  | x :: xs => nrm x :: nrms xs
end
theorem nrms_map : ∀ xs, nrms xs = xs.map nrm
  | [] => by simp only [nrms, List.map_nil]
  | x :: xs => by simp only [nrms, List.map_cons, nrms_map xs]
mutual
theorem Dq.fn {T : Tb} {H : Hp} : ∀ {v : V} {d e : PyData}, Dq T H v d → Dq T H v e → d = e
  | _, _, _, .non, h => by cases h; rfl
  | _, _, _, .bl b, h => by cases h; rfl
  | _, _, _, .int i, h => by cases h; rfl
  | _, _, _, .str x, h => by cases h; rfl
  | _, _, _, .lst e q, h => by
    cases h with
    | lst e' q' => rw [e] at e'; cases e'; rw [Dqs.fn q q']
    | tup e' q' => rw [e] at e'; cases e'
    | dct e' => rw [e] at e'; cases e'
  | _, _, _, .tup e q, h => by
    cases h with
    | tup e' q' => rw [e] at e'; cases e'; rw [Dqs.fn q q']
    | lst e' q' => rw [e] at e'; cases e'
    | dct e' => rw [e] at e'; cases e'
  | _, _, _, .dct e, h => by
    cases h with
    | dct e' => rfl
    | lst e' q' => rw [e] at e'; cases e'
    | tup e' q' => rw [e] at e'; cases e'
theorem Dqs.fn {T : Tb} {H : Hp} : ∀ {v : List V} {d e : List PyData}, Dqs T H v d → Dqs T H v e → d = e
  | _, _, _, .nil, h => by cases h; rfl
  | _, _, _, .cons a b, h => by
    cases h with
    | cons a' b' => rw [Dq.fn a a', Dqs.fn b b']
end

section
variable {T : Tb} {X : Cx} {pins : List (Addr × Obj)} {σ : L2.St} {H : Hp} {s : Shared}
def RcW (P : Program) (w : World) (A : Around) (s : Shared) (u v : Value) (b : Bool) : Prop :=
  ∀ (E Q : Value → Shared → Prop), Q (.bool b) s → wpAny (model P w) A (richCompare .Eq u v) Q E s
def notFl : Value → Bool
  | .float _ _ => false
  | _ => true
theorem eqIn_rc {P : Program} {w : World} {A : Around} {u v : Value} {b : Bool} (h : RcW P w A s u v b) (hs : u = v → b = true) (hf : notFl u = true) : EqIn P w A s u v b := by
  intro E Q hq
  by_cases hab : u = v
  · subst hab
    have := hs rfl
    subst this
    exact (EqAt.same _).inModel P w E Q hq
  · unfold eqBool
    refine wpAny_holding ?_
    refine wpAny_ite_split (fun z => absurd (eq_of_beq z) hab) (fun _ => ?_)
    cases u with
    | float x t => exact absurd (show false = true from hf) Bool.false_ne_true
    | _ => exact wpAny_bind (h E _ (wpAny_truthy_bool hq))
theorem dict_at (I : Inv X pins σ H s) {a : Addr} (e : H a = some (.dK T)) : ∃ es ep, s.heap.get? a = some (dictO es ep) := by
  obtain ⟨z, hy, vs, rv, o, es, ep, ho, hx, hd, _⟩ : ObjOk X.prog X.w H s.heap a (.dK T) := I.hok _ _ e
  exact ⟨es, ep, by rw [ho, exact_eq hx hd]⟩
theorem list_at (I : Inv X pins σ H s) {a : Addr} {xs : List V} (e : H a = some (.lst xs)) : ∃ its, Vals xs its ∧ s.heap.IsList a its.toArray := by
  obtain ⟨z, its, n, rv, hget⟩ : ObjOk X.prog X.w H s.heap a (.lst xs) := I.hok _ _ e
  exact ⟨its, rv, _, hget, rfl, n, rfl⟩
theorem tuple_at (I : Inv X pins σ H s) {a : Addr} {xs : List V} (e : H a = some (.tup xs)) : ∃ its, Vals xs its ∧ s.heap.IsTuple a its.toArray := by
  obtain ⟨z, its, rv, ht⟩ : ObjOk X.prog X.w H s.heap a (.tup xs) := I.hok _ _ e
  exact ⟨its, rv, ht⟩
theorem scal_dict {k : Key} : True := trivial
theorem kD_inj : ∀ {k : Key}, kV k = kV k := rfl
/-- two dicts of the table -/
theorem rc_dict_dict (I : Inv X pins σ H s) (hT : flatT T = true) {a b : Addr} (ea : H a = some (.dK T)) (eb : H b = some (.dK T)) {A : Around} (hu : A.units < cLine) : RcW X.prog X.w A s (.ref a) (.ref b) true := by
  intro E Q hq
  obtain ⟨za, ya, va, ra, da⟩ : ObjOk X.prog X.w H s.heap a (.dK T) := I.hok _ _ ea
  obtain ⟨zb, yb, vb, rb, db⟩ : ObjOk X.prog X.w H s.heap b (.dK T) := I.hok _ _ eb
  have nd : (va.map (·.1)).Nodup := by obtain ⟨_, _, _, _, _, _, _, _, nd⟩ := da; exact nd
  have ndb : (vb.map (·.1)).Nodup := by obtain ⟨_, _, _, _, _, _, _, _, nd⟩ := db; exact nd
  have key : ∀ (k : Key) (v y : Value), (k, v) ∈ va → valueAt vb k = some y → EqIn X.prog X.w A.in1 s v y true := by
    intro k v y hm hv
    -- both are the table's value at k
    have lem : ∀ {T' : Tb} {l1 l2 : List (Key × Value)}, KV T' l1 → KV T' l2 → flatT T' = true → (l1.map (·.1)).Nodup → (k, v) ∈ l1 → valueAt l2 k = some y → ∃ x, RelV x v ∧ RelV x y ∧ flat1 x = true := by
      intro T' l1 l2 r1
      induction r1 generalizing l2 with
      | nil => intro _ _ _ hm; cases hm
      | cons h1 t1 ih =>
        intro r2 hf hn hm hv
        rename_i p q ps qs
        cases r2 with
        | cons h2 t2 =>
          rename_i q2 qs2
          rw [flatT, List.all_cons, Bool.and_eq_true] at hf
          rw [List.map_cons, List.nodup_cons] at hn
          rcases List.mem_cons.mp hm with z | z
          · subst z
            have e1 : p.1 = k := h1.1
            have e2 : q2.1 = k := h2.1.symm.trans e1
            unfold valueAt at hv
            rw [List.find?_cons_of_pos (by simp [e2])] at hv
            have : q2.2 = y := Option.some.inj hv
            exact ⟨p.2, h1.2, this ▸ h2.2, hf.1⟩
          · have nk : q2.1 ≠ k := by
              intro e
              have e3 : q.1 = k := h1.1.symm.trans (h2.1.trans e)
              exact hn.1 (List.mem_map.mpr ⟨_, z, e3.symm⟩)
            refine ih t2 hf.2 hn.2 z ?_
            unfold valueAt at hv ⊢
            rw [List.find?_cons_of_neg (by simpa using nk)] at hv
            exact hv
    obtain ⟨x, r1, r2, hf⟩ := lem ra rb hT nd hm hv
    have hx : flatB x = true := by
      cases x with
      | byt _ => exact absurd (show false = true from hf) Bool.false_ne_true
      | flt _ => exact absurd (show false = true from hf) Bool.false_ne_true
      | ref _ => exact absurd (show false = true from hf) Bool.false_ne_true
      | ty _ => exact absurd (show false = true from hf) Bool.false_ne_true
      | _ => rfl
    exact (eqAt_same r1 r2 hx).inModel _ _
  have hl : va.length = vb.length := by rw [← ra.length, ← rb.length]
  refine PySem.W.keq_eqIn (knd := mixKind X.prog X.w) (r := true) ya yb da db hu (fun _ => ?_) ?_
  · have hall : (va.all fun p => (valueAt vb p.1).isSome && (fun _ => true) p.1) = true := by
      rw [List.all_eq_true]
      intro p hp
      have hk : p.1 ∈ vb.map (·.1) := by
        rw [← keys_same rb, keys_same ra]
        exact List.mem_map.mpr ⟨p, hp, rfl⟩
      obtain ⟨q, hq1, hq2⟩ := List.mem_map.mp hk
      have : (valueAt vb p.1).isSome = true := by
        unfold valueAt
        rw [Option.isSome_map, List.find?_isSome]
        exact ⟨q, hq1, by simp [hq2]⟩
      rw [this]
      rfl
    have := PySem.W.KeqHitsIn.of (prog := X.prog) (w := X.w) (A := A.in1) (s := s) (kb := vb) (e := fun _ => true) va key
    rw [hall] at this
    exact this
  · rw [hl]
    simpa using hq
end
end Kq

namespace Kq
open PySem PySem.Spec PyProof.Rows L2
open PySem.SeqAt PySem.MeetsSeq
section
variable {T : Tb} {X : Cx} {pins : List (Addr × Obj)} {σ : L2.St} {H : Hp} {s : Shared}
theorem rel_notFl {T : Tb} {H : Hp} {v : V} {d : PyData} {u : Value} (h : Dq T H v d) (r : RelV v u) : notFl u = true := by
  cases h with
  | non => cases r; rfl
  | bl b => cases r; rfl
  | int i => obtain ⟨t, rfl⟩ := r; rfl
  | str x => obtain ⟨t, rfl⟩ := r; rfl
  | lst _ _ => cases r; rfl
  | tup _ _ => cases r; rfl
  | dct _ => cases r; rfl
mutual
theorem rc_eq (I : Inv X pins σ H s) (hT : flatT T = true) : ∀ (v : V) (d e : PyData) (y : V) (u w : Value) (A : Around), Dq T H v d → Dq T H y e → RelV v u → RelV y w → A.units + d.depth < cLine →
    ∃ b, (b = true ↔ nrm d = nrm e) ∧ RcW X.prog X.w A s u w b
  | _, _, e, y, u, w, A, .non, h2, r1, r2, hu => by
    have hu0 : A.units < cLine := Nat.lt_of_le_of_lt (Nat.le_add_right _ _) hu
    cases r1
    cases h2 with
    | non =>
      cases r2
      exact ⟨true, by simp [nrm], fun E Q h => RcAt.none_none   _ _ E Q h⟩
    | bl q =>
      cases r2
      exact ⟨false, by simp [nrm], fun E Q h => RcAt.none_bool  q _ _ E Q h⟩
    | int q =>
      obtain ⟨t2, rfl⟩ := r2
      exact ⟨false, by simp [nrm], fun E Q h => RcAt.none_int  q t2 _ _ E Q h⟩
    | str q =>
      obtain ⟨t2, rfl⟩ := r2
      exact ⟨false, by simp [nrm], fun E Q h => RcAt.none_str  q t2 _ _ E Q h⟩
    | lst e2 q2 =>
      cases r2
      obtain ⟨its2, rv2, hl2⟩ := list_at I e2
      exact ⟨false, by simp [nrm], fun E Q h => RcAt.none_list  hl2 hu0 _ _ E Q h⟩
    | tup e2 q2 =>
      cases r2
      obtain ⟨its2, rv2, hl2⟩ := tuple_at I e2
      exact ⟨false, by simp [nrm], fun E Q h => RcAt.none_tuple  hl2 hu0 _ _ E Q h⟩
    | dct e2 =>
      cases r2
      obtain ⟨es2, ep2, ha2⟩ := dict_at I e2
      exact ⟨false, by simp [nrm, tD], fun E Q h => rc_none_dict  ha2 hu0 h⟩
  | _, _, e, y, u, w, A, .bl p, h2, r1, r2, hu => by
    have hu0 : A.units < cLine := Nat.lt_of_le_of_lt (Nat.le_add_right _ _) hu
    cases r1
    cases h2 with
    | non =>
      cases r2
      exact ⟨false, by simp [nrm], fun E Q h => RcAt.bool_none p  _ _ E Q h⟩
    | bl q =>
      cases r2
      exact ⟨(p == q), by cases p <;> cases q <;> simp [nrm], fun E Q h => RcAt.bool_bool p q _ _ E Q h⟩
    | int q =>
      obtain ⟨t2, rfl⟩ := r2
      exact ⟨((if p then 1 else 0) == q), by cases p <;> simp [nrm], fun E Q h => RcAt.bool_int p q t2 _ _ E Q h⟩
    | str q =>
      obtain ⟨t2, rfl⟩ := r2
      exact ⟨false, by simp [nrm], fun E Q h => RcAt.bool_str p q t2 _ _ E Q h⟩
    | lst e2 q2 =>
      cases r2
      obtain ⟨its2, rv2, hl2⟩ := list_at I e2
      exact ⟨false, by simp [nrm], fun E Q h => RcAt.bool_list p hl2 hu0 _ _ E Q h⟩
    | tup e2 q2 =>
      cases r2
      obtain ⟨its2, rv2, hl2⟩ := tuple_at I e2
      exact ⟨false, by simp [nrm], fun E Q h => RcAt.bool_tuple p hl2 hu0 _ _ E Q h⟩
    | dct e2 =>
      cases r2
      obtain ⟨es2, ep2, ha2⟩ := dict_at I e2
      exact ⟨false, by simp [nrm, tD], fun E Q h => rc_bool_dict p ha2 hu0 h⟩
  | _, _, e, y, u, w, A, .int p, h2, r1, r2, hu => by
    have hu0 : A.units < cLine := Nat.lt_of_le_of_lt (Nat.le_add_right _ _) hu
    obtain ⟨t, rfl⟩ := r1
    cases h2 with
    | non =>
      cases r2
      exact ⟨false, by simp [nrm], fun E Q h => RcAt.int_none p t  _ _ E Q h⟩
    | bl q =>
      cases r2
      exact ⟨(p == (if q then 1 else 0)), by cases q <;> simp [nrm], fun E Q h => RcAt.int_bool p t q _ _ E Q h⟩
    | int q =>
      obtain ⟨t2, rfl⟩ := r2
      exact ⟨(p == q), by simp [nrm], fun E Q h => RcAt.int_int p t q t2 _ _ E Q h⟩
    | str q =>
      obtain ⟨t2, rfl⟩ := r2
      exact ⟨false, by simp [nrm], fun E Q h => RcAt.int_str p t q t2 _ _ E Q h⟩
    | lst e2 q2 =>
      cases r2
      obtain ⟨its2, rv2, hl2⟩ := list_at I e2
      exact ⟨false, by simp [nrm], fun E Q h => RcAt.int_list p t hl2 hu0 _ _ E Q h⟩
    | tup e2 q2 =>
      cases r2
      obtain ⟨its2, rv2, hl2⟩ := tuple_at I e2
      exact ⟨false, by simp [nrm], fun E Q h => RcAt.int_tuple p t hl2 hu0 _ _ E Q h⟩
    | dct e2 =>
      cases r2
      obtain ⟨es2, ep2, ha2⟩ := dict_at I e2
      exact ⟨false, by simp [nrm, tD], fun E Q h => rc_int_dict p t ha2 hu0 h⟩
  | _, _, e, y, u, w, A, .str p, h2, r1, r2, hu => by
    have hu0 : A.units < cLine := Nat.lt_of_le_of_lt (Nat.le_add_right _ _) hu
    obtain ⟨t, rfl⟩ := r1
    cases h2 with
    | non =>
      cases r2
      exact ⟨false, by simp [nrm], fun E Q h => RcAt.str_none p t  _ _ E Q h⟩
    | bl q =>
      cases r2
      exact ⟨false, by simp [nrm], fun E Q h => RcAt.str_bool p t q _ _ E Q h⟩
    | int q =>
      obtain ⟨t2, rfl⟩ := r2
      exact ⟨false, by simp [nrm], fun E Q h => RcAt.str_int p t q t2 _ _ E Q h⟩
    | str q =>
      obtain ⟨t2, rfl⟩ := r2
      exact ⟨(p == q), by simp [nrm], fun E Q h => RcAt.str_str p t q t2 _ _ E Q h⟩
    | lst e2 q2 =>
      cases r2
      obtain ⟨its2, rv2, hl2⟩ := list_at I e2
      exact ⟨false, by simp [nrm], fun E Q h => RcAt.str_list p t hl2 hu0 _ _ E Q h⟩
    | tup e2 q2 =>
      cases r2
      obtain ⟨its2, rv2, hl2⟩ := tuple_at I e2
      exact ⟨false, by simp [nrm], fun E Q h => RcAt.str_tuple p t hl2 hu0 _ _ E Q h⟩
    | dct e2 =>
      cases r2
      obtain ⟨es2, ep2, ha2⟩ := dict_at I e2
      exact ⟨false, by simp [nrm, tD], fun E Q h => rc_str_dict p t ha2 hu0 h⟩
  | _, _, e, y, u, w, A, .lst (a := a) (xs := xs) (ds := ds) e1 q1, h2, r1, r2, hu => by
    have hu0 : A.units < cLine := Nat.lt_of_le_of_lt (Nat.le_add_right _ _) hu
    cases r1
    obtain ⟨its, rv, hl⟩ := list_at I e1
    cases h2 with
    | non =>
      cases r2
      exact ⟨false, by simp [nrm], fun E Q h => RcAt.list_none  hl hu0 _ _ E Q h⟩
    | bl q =>
      cases r2
      exact ⟨false, by simp [nrm], fun E Q h => RcAt.list_bool q hl hu0 _ _ E Q h⟩
    | int q =>
      obtain ⟨t2, rfl⟩ := r2
      exact ⟨false, by simp [nrm], fun E Q h => RcAt.list_int q t2 hl hu0 _ _ E Q h⟩
    | str q =>
      obtain ⟨t2, rfl⟩ := r2
      exact ⟨false, by simp [nrm], fun E Q h => RcAt.list_str q t2 hl hu0 _ _ E Q h⟩
    | lst e2 q2 =>
      cases r2
      obtain ⟨its2, rv2, hl2⟩ := list_at I e2
      rename_i xs2 ds2
      have hu1 : A.in1.units + PyData.depthAll ds < cLine := by
        simp only [PyData.depth] at hu
        show A.units + 1 + _ < cLine
        omega
      obtain ⟨f, hf1, hf2⟩ := items_eq I hT ds q1 q2 rv rv2 hu1
      have l1 := q1.length
      have l2 := q2.length
      have l3 := rv.length
      have l4 := rv2.length
      by_cases hz : its.toArray.size = its2.toArray.size
      · refine ⟨(List.range its.toArray.size).all f, ?_, fun E Q h => rcIn_lists hl hl2 hz hu0 (fun j h1 h2 => ?_) h⟩
        · rw [hf2 its.toArray.size (by rw [List.size_toArray, ← l3, l1]) (by rw [hz, List.size_toArray, ← l4, l2])]
          simp only [nrm, PyData.list.injEq]
        · have := hf1 j (by simpa using h1) (by simpa using h2)
          simpa using this
      · refine ⟨false, ?_, fun E Q h => RcAt.lists_lengths hl hl2 (by simpa using hz) hu0 _ _ E Q h⟩
        simp only [nrm, PyData.list.injEq, Bool.false_eq_true, false_iff]
        intro z
        have := congrArg List.length z
        rw [nrms_map, nrms_map, List.length_map, List.length_map] at this
        rw [List.size_toArray, List.size_toArray] at hz
        omega
    | tup e2 q2 =>
      cases r2
      obtain ⟨its2, rv2, hl2⟩ := tuple_at I e2
      exact ⟨false, by simp [nrm], fun E Q h => RcAt.list_tuple hl hl2 hu0 _ _ E Q h⟩
    | dct e2 =>
      cases r2
      obtain ⟨es2, ep2, ha2⟩ := dict_at I e2
      exact ⟨false, by simp [nrm, tD], fun E Q h => rc_list_dict ha2 hl hu0 h⟩
  | _, _, e, y, u, w, A, .tup (a := a) (xs := xs) (ds := ds) e1 q1, h2, r1, r2, hu => by
    have hu0 : A.units < cLine := Nat.lt_of_le_of_lt (Nat.le_add_right _ _) hu
    cases r1
    obtain ⟨its, rv, hl⟩ := tuple_at I e1
    cases h2 with
    | non =>
      cases r2
      exact ⟨false, by simp [nrm], fun E Q h => RcAt.tuple_none  hl hu0 _ _ E Q h⟩
    | bl q =>
      cases r2
      exact ⟨false, by simp [nrm], fun E Q h => RcAt.tuple_bool q hl hu0 _ _ E Q h⟩
    | int q =>
      obtain ⟨t2, rfl⟩ := r2
      exact ⟨false, by simp [nrm], fun E Q h => RcAt.tuple_int q t2 hl hu0 _ _ E Q h⟩
    | str q =>
      obtain ⟨t2, rfl⟩ := r2
      exact ⟨false, by simp [nrm], fun E Q h => RcAt.tuple_str q t2 hl hu0 _ _ E Q h⟩
    | lst e2 q2 =>
      cases r2
      obtain ⟨its2, rv2, hl2⟩ := list_at I e2
      exact ⟨false, by simp [nrm], fun E Q h => RcAt.tuple_list hl hl2 hu0 _ _ E Q h⟩
    | tup e2 q2 =>
      cases r2
      obtain ⟨its2, rv2, hl2⟩ := tuple_at I e2
      rename_i xs2 ds2
      have hu1 : A.in1.units + PyData.depthAll ds < cLine := by
        simp only [PyData.depth] at hu
        show A.units + 1 + _ < cLine
        omega
      obtain ⟨f, hf1, hf2⟩ := items_eq I hT ds q1 q2 rv rv2 hu1
      have l1 := q1.length
      have l2 := q2.length
      have l3 := rv.length
      have l4 := rv2.length
      refine ⟨(List.range (min its.toArray.size its2.toArray.size)).all f && its.toArray.size == its2.toArray.size, ?_, fun E Q h => rcIn_tuples hl hl2 hu0 (fun j h1 h2 => ?_) h⟩
      · by_cases hz : its.toArray.size = its2.toArray.size
        · rw [← hz, Nat.min_self, beq_self_eq_true, Bool.and_true, hf2 its.toArray.size (by rw [List.size_toArray, ← l3, l1]) (by rw [hz, List.size_toArray, ← l4, l2])]
          simp only [nrm, PyData.tuple.injEq]
        · rw [show (its.toArray.size == its2.toArray.size) = false from by simpa using hz, Bool.and_false]
          simp only [nrm, PyData.tuple.injEq, Bool.false_eq_true, false_iff]
          intro z
          have := congrArg List.length z
          rw [nrms_map, nrms_map, List.length_map, List.length_map] at this
          rw [List.size_toArray, List.size_toArray] at hz
          omega
      · have := hf1 j (by simpa using h1) (by simpa using h2)
        simpa using this
    | dct e2 =>
      cases r2
      obtain ⟨es2, ep2, ha2⟩ := dict_at I e2
      exact ⟨false, by simp [nrm, tD], fun E Q h => rc_tuple_dict ha2 hl hu0 h⟩
  | _, _, e, y, u, w, A, .dct (a := a) e1, h2, r1, r2, hu => by
    have hu0 : A.units < cLine := Nat.lt_of_le_of_lt (Nat.le_add_right _ _) hu
    cases r1
    obtain ⟨es, ep, ha⟩ := dict_at I e1
    cases h2 with
    | non =>
      cases r2
      exact ⟨false, by simp [nrm, tD], fun E Q h => rc_dict_none  ha hu0 h⟩
    | bl q =>
      cases r2
      exact ⟨false, by simp [nrm, tD], fun E Q h => rc_dict_bool q ha hu0 h⟩
    | int q =>
      obtain ⟨t2, rfl⟩ := r2
      exact ⟨false, by simp [nrm, tD], fun E Q h => rc_dict_int q t2 ha hu0 h⟩
    | str q =>
      obtain ⟨t2, rfl⟩ := r2
      exact ⟨false, by simp [nrm, tD], fun E Q h => rc_dict_str q t2 ha hu0 h⟩
    | lst e2 q2 =>
      cases r2
      obtain ⟨its2, rv2, hl2⟩ := list_at I e2
      exact ⟨false, by simp [nrm, tD], fun E Q h => rc_dict_list ha hl2 hu0 h⟩
    | tup e2 q2 =>
      cases r2
      obtain ⟨its2, rv2, hl2⟩ := tuple_at I e2
      exact ⟨false, by simp [nrm, tD], fun E Q h => rc_dict_tuple ha hl2 hu0 h⟩
    | dct e2 =>
      cases r2
      obtain ⟨es2, ep2, ha2⟩ := dict_at I e2
      exact ⟨true, by simp, rc_dict_dict I hT e1 e2 hu0⟩
theorem items_eq (I : Inv X pins σ H s) (hT : flatT T = true) : ∀ (ds : List PyData) {es : List PyData} {vs ys : List V} {us ws : List Value} {A : Around}, Dqs T H vs ds → Dqs T H ys es → Vals vs us → Vals ys ws → A.units + PyData.depthAll ds < cLine →
    ∃ f : Nat → Bool, (∀ j (h1 : j < us.length) (h2 : j < ws.length), EqIn X.prog X.w A s us[j] ws[j] (f j)) ∧ ∀ n, n = ds.length → n = es.length → ((List.range n).all f = true ↔ nrms ds = nrms es)
  | _, es, _, ys, us, ws, A, .nil, q2, r1, r2, hu => by
    cases r1
    refine ⟨fun _ => true, fun j h1 => absurd h1 (Nat.not_lt_zero j), fun n h1 h2 => ?_⟩
    have h1' : n = 0 := h1
    subst h1'
    cases es with
    | nil => simp
    | cons a b => simp at h2
  | _, _, _, _, us, ws, A, .cons (d := d) (ds := ds) a1 b1, q2, r1, r2, hu => by
    cases r1 with
    | cons rv1 rs1 =>
      cases q2 with
      | nil =>
        cases r2
        refine ⟨fun _ => true, fun j _ h2 => absurd h2 (Nat.not_lt_zero j), fun n h1 h2 => ?_⟩
        rw [h2] at h1
        simp at h1
      | cons a2 b2 =>
        rename_i y ys e es
        cases r2 with
        | cons rv2 rs2 =>
          have hu1 : A.units + d.depth < cLine := by simp only [PyData.depthAll] at hu; omega
          have hu2 : A.units + PyData.depthAll ds < cLine := by simp only [PyData.depthAll] at hu; omega
          obtain ⟨b, hb1, hb2⟩ := rc_eq I hT _ _ _ _ _ _ A a1 a2 rv1 rv2 hu1
          obtain ⟨f, hf1, hf2⟩ := items_eq I hT ds (A := A) b1 b2 rs1 rs2 hu2
          refine ⟨fun j => match j with | 0 => b | j + 1 => f j, fun j h1 h2 => ?_, fun n h1 h2 => ?_⟩
          · cases j with
            | zero =>
              refine eqIn_rc hb2 (fun z => ?_) (rel_notFl a1 rv1)
              have z' := z
              simp only [List.getElem_cons_zero] at z'
              rw [z'] at rv1
              have := RelV.inj rv1 rv2
              subst this
              exact hb1.mpr (by rw [Dq.fn a1 a2])
            | succ j => exact hf1 j (Nat.lt_of_succ_lt_succ h1) (Nat.lt_of_succ_lt_succ h2)
          · cases n with
            | zero => simp at h1
            | succ n =>
              have := hf2 n (by simpa using h1) (by simpa using h2)
              rw [List.range_succ_eq_map, List.all_cons, List.all_map]
              simp only [nrms, List.cons.injEq, Bool.and_eq_true]
              rw [← this, ← hb1]
              exact Iff.rfl
end
end
/-! ### the rules -/
def rEqQ (T : Tb) : R2 := fun x y H Q => ∃ d e, Dq T H x d ∧ Dq T H y e ∧ d.depth ≤ 60 ∧ ∀ b : Bool, (b = true ↔ nrm d = nrm e) → Q (.bl b) H
theorem op_eqQ {T : Tb} {X : Cx} (hT : flatT T = true) (hu : X.A.units + 64 < cLine) : OpR X (compareOp .Eq) (rEqQ T) := by
  intro pins s σ H x y v u Q I rx ry h
  obtain ⟨d, e, hd, he, hp, q⟩ := h
  obtain ⟨b, h1, h2⟩ := rc_eq I hT x d e y v u X.A hd he rx ry (by omega)
  exact h2 _ _ ⟨.bl b, H, I, rfl, q b h1⟩
end Kq

namespace Kq
open PySem PySem.Spec PyProof.Rows L2

/-! ## == and != of instances with an own __eq__, against anything -/
/-- the class of a value -/
inductive TyOf (H : Hp) : V → Value → Prop
  | non : TyOf H .non (.type "NoneType")
  | bl (b : Bool) : TyOf H (.bl b) (.type "bool")
  | int (i : Int) : TyOf H (.int i) (.type "int")
  | str (x : Str) : TyOf H (.str x) (.type "str")
  | lst {a : Addr} {xs : List V} : H a = some (.lst xs) → TyOf H (.ref a) (.type "list")
  | tup {a : Addr} {xs : List V} : H a = some (.tup xs) → TyOf H (.ref a) (.type "tuple")
  | dct {a : Addr} {kvs : List (Key × V)} : H a = some (.dK kvs) → TyOf H (.ref a) (.type "dict")
  | ins {a C dx : Addr} {fs : List (Str × V)} : H a = some (.ins C dx fs) → TyOf H (.ref a) (.ref C)
theorem Dq.ty {T : Tb} {H : Hp} {v : V} {d : PyData} (h : Dq T H v d) : ∃ t : String, TyOf H v (.type t) ∧ t ∈ ["NoneType", "bool", "int", "str", "list", "tuple", "dict"] := by
  cases h with
  | non => exact ⟨_, .non, by simp⟩
  | bl b => exact ⟨_, .bl b, by simp⟩
  | int i => exact ⟨_, .int i, by simp⟩
  | str x => exact ⟨_, .str x, by simp⟩
  | lst e _ => exact ⟨_, .lst e, by simp⟩
  | tup e _ => exact ⟨_, .tup e, by simp⟩
  | dct e => exact ⟨_, .dct e, by simp⟩
section
variable {X : Cx} {pins : List (Addr × Obj)} {σ : L2.St} {H : Hp} {s : Shared}
theorem TyOf.looks (I : Inv X pins σ H s) {x : V} {tb : Value} {u : Value} (h : TyOf H x tb) (r : RelV x u) : PySem.W.Looks (model X.prog X.w) s.heap (typeOf u) tb := by
  intro A Q E s' k q
  have go : ∀ {t : String}, s'.TypeIs u t → tb = .type t → wpAny (model X.prog X.w) A (typeOf u) Q E s' := fun ht e => by
    subst e
    exact wpAny_typeOf ht q
  cases h with
  | non => cases r; exact go rfl rfl
  | bl b => cases r; exact go rfl rfl
  | int i => obtain ⟨t, rfl⟩ := r; exact go (typeIs_int _ _ _) rfl
  | str x => obtain ⟨t, rfl⟩ := r; exact go (typeIs_str _ _ _) rfl
  | lst e =>
    cases r
    obtain ⟨z, its, n, rv, hget⟩ : ObjOk X.prog X.w H s.heap _ (.lst _) := I.hok _ _ e
    exact go ⟨_, k _ _ hget, rfl⟩ rfl
  | tup e =>
    cases r
    obtain ⟨z, its, rv, o, ho, hc, _⟩ : ObjOk X.prog X.w H s.heap _ (.tup _) := I.hok _ _ e
    exact go ⟨_, k _ _ ho, hc⟩ rfl
  | dct e =>
    cases r
    obtain ⟨z, hy, vs, rv, o, es, ep, ho, hx, _⟩ : ObjOk X.prog X.w H s.heap _ (.dK _) := I.hok _ _ e
    exact go ⟨_, k _ _ ho, hx.1⟩ rfl
  | ins e =>
    cases r
    obtain ⟨mA, O, _⟩ := ins_get I.hok e
    obtain ⟨od, J, _⟩ := O.look
    exact J.type A Q E s' k q
end
theorem notFirst_ty (K : PySem.W.Frag) (C : Addr) {t : String} (h : t ∈ ["NoneType", "bool", "int", "str", "list", "tuple", "dict"]) : PySem.W.notFirst K C (.type t) = true := by
  have go : ∀ {t : String} {l : List String}, fastBuiltinMro t = some (l.map Value.type) → PySem.W.notFirst K C (.type t) = true := by
    intro t l e
    have : PySem.W.subIn K (.type t) (.ref C) = some false := by
      show (fastBuiltinMro t).map (·.contains (.ref C)) = some false
      rw [e, Option.map_some]
      congr 1
      rw [Bool.eq_false_iff]
      intro z
      rw [List.contains_iff_mem] at z
      obtain ⟨n, _, e⟩ := List.mem_map.mp z
      cases e
    unfold PySem.W.notFirst
    rw [this]
    simp
  rcases List.mem_cons.mp h with rfl | h
  · exact go (l := ["NoneType", "object"]) (by decide +kernel)
  rcases List.mem_cons.mp h with rfl | h
  · exact go (l := ["bool", "int", "object"]) (by decide +kernel)
  rcases List.mem_cons.mp h with rfl | h
  · exact go (l := ["int", "object"]) (by decide +kernel)
  rcases List.mem_cons.mp h with rfl | h
  · exact go (l := ["str", "object"]) (by decide +kernel)
  rcases List.mem_cons.mp h with rfl | h
  · exact go (l := ["list", "object"]) (by decide +kernel)
  rcases List.mem_cons.mp h with rfl | h
  · exact go (l := ["tuple", "object"]) (by decide +kernel)
  rcases List.mem_cons.mp h with rfl | h
  · exact go (l := ["dict", "object"]) (by decide +kernel)
  cases h
theorem notFirst_self (K : PySem.W.Frag) (C : Addr) : PySem.W.notFirst K C (.ref C) = true := by simp [PySem.W.notFirst]

structure EqCls (K : PySem.W.Frag) (C f : Addr) : Prop where
  he : PySem.W.findIn K (.ref C) "__eq__" = some (some (.ref f))
  hf : PySem.W.isFn K (.ref f) = true
  hne : PySem.W.findIn K (.ref C) "__ne__" = some (some (.builtin "object.__ne__"))
  ho : PySem.W.mroIn K C (.type "object") = some true
section
variable {prog : Program} {w : World} {A : Around} {E : Value → Shared → Prop} {s : Shared} {K : PySem.W.Frag} {x C f : Addr} {ox : Obj} {od : Option Obj} {b tb : Value}
/-- object.__ne__ of an instance with an own __eq__ -/
theorem ne_entry (hu : A.units < cLine) (X : K.In s.heap) (I : PySem.W.InstAt s.heap x ox C od) (ec : EqCls K C f) {Q : Fin → Shared → Prop}
    (hcall : wpAny (model prog w) A (call (.ref f) [.ref x, b]) (fun v s' => ∃ r, v = .bool r ∧ Q (.done (.ret (.bool (!r)))) s') E s) :
    wpAny (model prog w) A (Builtin.«object.__ne__» ⟨[.ref x, b], []⟩) Q E s := by
  have key : wpAny (model prog w) A (callSpecialIfBound? (.ref x) (Str.ofString "__eq__") [b]) (fun o s' => ∃ r, o = some (.bool r) ∧ Q (.done (.ret (.bool (!r)))) s') E s :=
    PySem.W.ifBound_K X I ec.he ec.hf (wpAny_mono hcall (fun v s' ⟨r, e, q⟩ => ⟨r, by rw [e], q⟩) fun _ _ e => e)
  unfold Builtin.«object.__ne__»
  refine wpAny_bind (wpAny_of_eq (a := ((Value.ref x : Value), [b])) (by first | rfl | (simp only [slotArgs]; rfl)) ?_)
  show wpAny _ _ (cRoomFor "comparison" [.ref x, b] >>= fun _ => callSpecialIfBound? (.ref x) (Str.ofString "__eq__") [b] >>= _) _ _ _
  refine wpAny_bind (wpAny_cRoomFor hu ?_)
  refine wpAny_bind (wpAny_mono key (fun o s' z => ?_) fun _ _ e => e)
  obtain ⟨r, rfl, q⟩ := z
  show wpAny _ _ (truthy (.bool r) >>= _) _ _ _
  exact wpAny_bind (wpAny_truthy_bool (wpAny_pure q))
theorem ne_bound {M : Model} {args : List Value} {Q : Option Value → Shared → Prop} (X : K.In s.heap) (I : PySem.W.InstAt s.heap x ox C od) (hs : PySem.W.findIn K (.ref C) "__ne__" = some (some (.builtin "object.__ne__")))
    (h : wpAny M A (call (.builtin "object.__ne__") (.ref x :: args)) (fun v => Q (some v)) E s) : wpAny M A (callSpecialIfBound? (.ref x) "__ne__" args) Q E s := by
  simp only [callSpecialIfBound?, bindSpecialIfBound?]
  refine wpAny_holding (wpAny_bind (wpAny_bind (wpAny_bind (I.type.here ((PySem.W.looks_findIn X hs).here ?_)))))
  refine wpAny_bind (wpAny_askSetting (wpAny_ite ?_))
  have last : wpAny M A (call (.builtin "object.__ne__") ([.ref x] ++ args) >>= fun v => pure (some v)) Q E s := wpAny_bind (wpAny_mono h (fun _ _ z => wpAny_pure z) fun _ _ z => z)
  have bd := PySem.F.cmp_object.ne.bind (.ref x)
  split
  · exact wpAny_bind (wpAny_of_eq bd (wpAny_pure (by exact last)))
  · exact wpAny_tryCatch (wpAny_bind (wpAny_of_eq bd (wpAny_pure (by exact last))))
theorem rc_ne (hu : A.units + 1 < cLine) (X : K.In s.heap) (I : PySem.W.InstAt s.heap x ox C od) (ec : EqCls K C f) (hb : PySem.W.Looks (model prog w) s.heap (typeOf b) tb) (hn : PySem.W.notFirst K C tb = true) {Q : Value → Shared → Prop}
    (hcall : wpAny (model prog w) A.in1 (call (.ref f) [.ref x, b]) (fun v s' => ∃ r, v = .bool r ∧ Q (.bool (!r)) s') E s) : wpAny (model prog w) A (richCompare .NotEq (.ref x) b) Q E s := by
  have one : wpAny (model prog w) A (tryCompare (.ref x) "__ne__" b) (fun r s' => ∃ k, r = some (.bool k) ∧ Q (.bool k) s') E s := by
    unfold tryCompare
    refine wpAny_bind (ne_bound X I ec.hne ?_)
    refine wpAny_call (codeAny_call_builtin PySem.F.cmp_object.ne.plain PySem.F.cmpEntry_ne (PySem.W.check_slot PySem.F.cmpKind_ne PySem.F.cmpSplit_ne (I.type.andThen (PySem.W.looks_mroIn X ec.ho)) (PySem.F.cmpArgs_ne _ _) ?_))
    refine ne_entry (A := A.in1) hu X I ec (wpAny_mono hcall (fun v s' z => ?_) fun _ _ e => e)
    obtain ⟨r, rfl, q⟩ := z
    exact ⟨r, rfl, wpAny_pure ⟨_, rfl, q⟩⟩
  unfold richCompare
  simp only [oneThing_ref]
  refine wpAny_holding (wpAny_bind (wpAny_cRoomFor (Nat.lt_of_succ_lt hu) ?_))
  refine wpAny_bind (I.type.here (wpAny_bind (hb.here ?_)))
  split
  · rename_i q
    have e : PySem.W.subIn K tb (.ref C) = some false := by
      unfold PySem.W.notFirst at hn
      rw [Bool.or_eq_true, beq_iff_eq, beq_iff_eq] at hn
      rcases hn with e | e
      · rw [e] at q
        exact absurd q (by simp)
      · exact e
    refine wpAny_bind ((PySem.W.looks_subIn X e).here ?_)
    simp only [Bool.false_eq_true, if_false]
    refine wpAny_bind (wpAny_mono one (fun r s' z => ?_) fun _ _ e => e)
    obtain ⟨k, rfl, hq⟩ := z
    exact wpAny_pure hq
  · refine wpAny_bind (wpAny_pure ?_)
    simp only [Bool.false_eq_true, if_false]
    refine wpAny_bind (wpAny_mono one (fun r s' z => ?_) fun _ _ e => e)
    obtain ⟨k, rfl, hq⟩ := z
    exact wpAny_pure hq
end
section
variable {X : Cx} {k : Nat} {C f : Addr} {fd : FuncData} {ps : List Str} {sp : Sp}
def rOwn (K : PySem.W.Frag) (C : Addr) (sp : Sp) (neg : Bool) : R2 := fun x y H Q => ∃ a dx fs tb, x = .ref a ∧ H a = some (.ins C dx fs) ∧ TyOf H y tb ∧ PySem.W.notFirst K C tb = true ∧
  sp [x, y] H (fun v H' => ∃ b, v = .bl b ∧ Q (.bl (if neg then !b else b)) H') E0
theorem run_at (F : FnOk X.prog X.w X.K X.mg X.base CX0 k f fd ps sp) (hb : Binds X.K fd ps []) {A : Around} (hr : Room k A) (hfr : A.frames = X.A.frames) {pins : List (Addr × Obj)} {σ : L2.St} {H : Hp} {s : Shared} {vs : List V} {us : List Value} {Q : VK} {E : Value → Shared → Prop}
    (I : Inv X pins σ H s) (r : Vals vs us) (h : sp vs H Q E0) : wpAny (model X.prog X.w) A (call (.ref f) us) (EP X pins σ Q) E s := by
  have hl : us.length = ps.length := by rw [← r.length]; exact F.len _ _ _ _ h
  have hb1 := hb s us I.kIn (by simpa using hl)
  rw [List.append_nil] at hb1
  have e0 : Env0 X.prog X.w X.K X.mg X.base A X.stack s H := by
    have e := I.env0
    exact ⟨by rw [hfr]; exact e.frames, e.mod, e.bs, e.bsz, e.funs, e.frf, e.hok, e.bare⟩
  refine wpAny_call (codeAny_mono (F.run A X.stack s H ⟨us, []⟩ us vs Q E0 hr e0 hb1 r h) ?_)
  intro r s' hq
  match r, hq with
  | .error e, hq => exact hq.elim
  | .ok (.ret u), hq => exact I.after hq
theorem op_ownEq (F : FnOk X.prog X.w X.K X.mg X.base CX0 k f fd ps sp) (hb : Binds X.K fd ps []) (ec : EqCls X.K C f) {j : Nat} (hr : Room j X.A) (hj : k ≤ j) : OpR X (compareOp .Eq) (rOwn X.K C sp false) := by
  intro pins s σ H x y v u Q I rx ry h
  obtain ⟨a, dx, fs, tb, rfl, ha, ht, hn, hsp⟩ := h
  cases rx
  obtain ⟨mA, O, _⟩ := ins_get I.hok ha
  obtain ⟨od, J, _⟩ := O.look
  obtain ⟨m, hF⟩ := I.fr
  show wpAny (model X.prog X.w) X.A (richCompare .Eq _ u) (EP X pins σ Q) X.xe s
  refine PySem.W.cmp_K (op := .Eq) hr.units0 hF I.ok.mod.kin J (ht.looks I ry) hn ec.he ec.hf ?_
  refine wpAny_mono (run_at F hb (hr.mono hj) rfl (vs := [.ref a, y]) I (.cons rfl (.cons ry .nil)) hsp) (fun v s' z => ?_) fun _ _ e => e
  obtain ⟨v', H', I', rv, b, rfl, q⟩ := z
  cases rv
  exact ⟨.bl b, H', I', rfl, q⟩
theorem op_ownNe (F : FnOk X.prog X.w X.K X.mg X.base CX0 k f fd ps sp) (hb : Binds X.K fd ps []) (ec : EqCls X.K C f) {j : Nat} (hr : Room j X.A) (hj : k + 1 ≤ j) : OpR X (compareOp .NotEq) (rOwn X.K C sp true) := by
  intro pins s σ H x y v u Q I rx ry h
  obtain ⟨a, dx, fs, tb, rfl, ha, ht, hn, hsp⟩ := h
  cases rx
  obtain ⟨mA, O, _⟩ := ins_get I.hok ha
  obtain ⟨od, J, _⟩ := O.look
  show wpAny (model X.prog X.w) X.A (richCompare .NotEq _ u) (EP X pins σ Q) X.xe s
  refine rc_ne (by have := hr.un; omega) I.kIn J ec (ht.looks I ry) hn ?_
  refine wpAny_mono (run_at F hb (hr.mono hj).in1 rfl (vs := [.ref a, y]) I (.cons rfl (.cons ry .nil)) hsp) (fun v s' z => ?_) fun _ _ e => e
  obtain ⟨v', H', I', rv, b, rfl, q⟩ := z
  cases rv
  exact ⟨b, rfl, .bl (!b), H', I', rfl, q⟩
end
end Kq

namespace Kq
open PySem PySem.Spec PyProof.Rows L2

/-! ## operators, whatever the values are -/
section
variable {X : Cx}
/-- a text times an int -/
def rMulS : R2 := fun x y H Q => ∃ (z : Str) (n : Nat), x = .str z ∧ y = .int (n : Int) ∧ z.length * n ≤ 1000000 ∧ n ≤ 1000000 ∧ Q (.str ⟨(List.replicate n z.cps.toList).flatten.toArray⟩) H
theorem foldl_app (z : Array Nat) : ∀ (n : Nat) (a : Array Nat), (List.replicate n z).foldl (fun x1 x2 => x1 ++ x2) a = a ++ (List.replicate n z.toList).flatten.toArray
  | 0, a => by simp
  | n + 1, a => by
    rw [List.replicate_succ, List.replicate_succ, List.foldl_cons, foldl_app z n, List.flatten_cons, Array.append_assoc]
    congr 1
    apply Array.ext'
    simp
theorem op_mulS : OpR X (binaryOp .Mult) rMulS := by
  intro pins s σ H x y v u Q I rx ry h
  obtain ⟨z, n, rfl, rfl, hz, hn, q⟩ := h
  obtain ⟨t, rfl⟩ := rx
  obtain ⟨t', rfl⟩ := ry
  have sz : (sizeLine : Nat) = 16777216 := sizeLine_eq
  have hr : (decide ((n : Int) < -(2 ^ 63 : Int)) || decide ((n : Int) ≥ 2 ^ 63)) = false := by
    rw [decide_eq_false (by omega), decide_eq_false (by omega)]
    rfl
  refine PySem.P.mul_str hr (fun h1 h2 => ?_) (fun h1 h2 => ?_) ?_
  · intro hc
    have h3 : (1 : Int) ≤ (n : Int) := by omega
    have h4 : (z.length : Int) * n ≤ 1000000 := by
      have := Int.ofNat_le.mpr hz
      rw [Int.natCast_mul] at this
      exact this
    have h5 : (2 ^ 63 - 1) / (n : Int) * n + n > 2 ^ 63 - 1 := by
      have := Int.lt_ediv_add_one_mul_self (2 ^ 63 - 1 : Int) (show (0 : Int) < (n : Int) by omega)
      rw [Int.add_mul, Int.one_mul] at this
      exact this
    have h6 : ((2 ^ 63 - 1) / (n : Int)) * n ≤ (z.length : Int) * n := Int.mul_le_mul_of_nonneg_right (by omega) (by omega)
    omega
  · unfold Builtin.Str.tooLong
    simp only [Int.toNat_natCast]
    first
      | (rw [decide_eq_false_iff_not]; omega)
      | (simp; omega)
  · by_cases h1 : (n : Int) < 1
    · rw [if_pos h1]
      have : n = 0 := by omega
      subst this
      refine ⟨by decide, ?_⟩
      exact ⟨.str Str.empty, H, I.tok _, ⟨_, rfl⟩, q⟩
    · rw [if_neg h1]
      split
      · rename_i h2
        rw [Bool.or_eq_true] at h2
        have e : (⟨(List.replicate n z.cps.toList).flatten.toArray⟩ : Str) = z := by
          rcases h2 with h2 | h2
          · have : n = 1 := by have := eq_of_beq h2; omega
            subst this
            simp
          · have : z.cps.toList = [] := by
              have h3 : z.length = 0 := eq_of_beq h2
              rw [← List.length_eq_zero_iff, Array.length_toList]
              exact h3
            have e2 : (List.replicate n z.cps.toList).flatten = [] := by
              rw [this]
              induction n with
              | zero => rfl
              | succ n ih => simp
            rw [e2]
            have : z.cps = #[] := by
              apply Array.ext'
              rw [this]
            cases z
            simp_all
        refine ⟨.str z, H, I, ⟨t, rfl⟩, ?_⟩
        rw [e] at q
        exact q
      · have hlen : (⟨(List.replicate n z.cps.toList).flatten.toArray⟩ : Str).length = z.length * n := by
          show ((List.replicate n z.cps.toList).flatten.toArray).size = _
          rw [List.size_toArray, List.length_flatten, List.map_replicate, List.sum_replicate_nat, Array.length_toList, Nat.mul_comm]
          rfl
        have e : (⟨(List.replicate (n : Int).toNat z.cps).foldl (fun x1 x2 => x1 ++ x2) #[]⟩ : Str) = ⟨(List.replicate n z.cps.toList).flatten.toArray⟩ := by
          rw [foldl_app]
          simp
        rw [e]
        exact ⟨by rw [hlen]; omega, .str _, H, I.tok _, ⟨_, rfl⟩, q⟩
section
variable {K : PySem.W.Frag}
theorem opAddP (hK : X.K = K := by rfl) : OpR X (binaryOp .Add) (fun x y H Q => rI0 (fun i j => .int (i + j)) x y H Q ∨ (∃ i j, x = .str i ∧ y = .str j ∧ i.length + j.length ≤ sizeLine ∧ Q (.str (i ++ j)) H) ∨ rCat x y H Q ∨ rCatA K x y H Q) := by
  subst hK
  exact op_add.or (op_add_str.or (op_cat.or op_catA))
theorem opMulP : OpR X (binaryOp .Mult) (fun x y H Q => rI CMul (fun i j => .int (i * j)) x y H Q ∨ rMulS x y H Q ∨ rRep x y H Q) := op_mul.or (op_mulS.or op_rep)
theorem opSubP : OpR X (binaryOp .Sub) (rI0 fun i j => .int (i - j)) := op_sub
theorem opNeg : UnR X (unaryOp .USub) (rU fun i => .int (-i)) := un_neg
theorem opEqP {T : Tb} (hT : flatT T = true) (hu : X.A.units + 64 < cLine) : OpR X (compareOp .Eq) (fun x y H Q => rEq x y H Q ∨ rEqQ T x y H Q) := op_eq.or (op_eqQ hT hu)
theorem opNeP (hu : X.A.units + 64 < cLine) (hK : X.K = K := by rfl) : OpR X (compareOp .NotEq) (fun x y H Q => rNe x y H Q ∨ rNeD K x y H Q) := by
  subst hK
  exact op_ne.or (op_neD hu)
theorem opLtP : OpR X (compareOp .Lt) (fun x y H Q => rI0 (fun i j => .bl (decide (i < j))) x y H Q ∨ (∃ i j, x = .str i ∧ y = .str j ∧ Q (.bl (decide (i.cps.toList < j.cps.toList))) H)) := op_lt.or op_lt_str
theorem opLeP : OpR X (compareOp .LtE) (fun x y H Q => rI0 (fun i j => .bl (decide (i ≤ j))) x y H Q ∨ (∃ i j, x = .str i ∧ y = .str j ∧ Q (.bl (!decide (j.cps.toList < i.cps.toList))) H)) := op_le.or op_le_str
theorem opGtP : OpR X (compareOp .Gt) (fun x y H Q => rI0 (fun i j => .bl (decide (j < i))) x y H Q ∨ (∃ i j, x = .str i ∧ y = .str j ∧ Q (.bl (decide (j.cps.toList < i.cps.toList))) H)) := op_gt.or op_gt_str
theorem opGeP : OpR X (compareOp .GtE) (fun x y H Q => rI0 (fun i j => .bl (decide (j ≤ i))) x y H Q ∨ (∃ i j, x = .str i ∧ y = .str j ∧ Q (.bl (!decide (i.cps.toList < j.cps.toList))) H)) := op_ge.or op_ge_str
theorem opInP (hK : X.K = K := by rfl) : OpR X (compareOp .In) (fun x y H Q => rIn K false x y H Q ∨ (∃ (c : Nat) (z : Str), x = .str ⟨#[c]⟩ ∧ y = .str z ∧ Q (.bl (decide (c ∈ z.cps.toList))) H)) := by
  subst hK
  exact op_in_seq.or op_in_sign
theorem opNinP (hK : X.K = K := by rfl) : OpR X (compareOp .NotIn) (fun x y H Q => rIn K true x y H Q ∨ (∃ (c : Nat) (z : Str), x = .str ⟨#[c]⟩ ∧ y = .str z ∧ Q (.bl (!decide (c ∈ z.cps.toList))) H)) := by
  subst hK
  exact op_notIn_seq.or op_notIn_sign
theorem opIsP : OpR X (compareOp .Is) (fun x y H Q => y = .non ∧ Q (.bl (decide (x = .non))) H) := op_isN
theorem opIsntP : OpR X (compareOp .IsNot) (fun x y H Q => y = .non ∧ Q (.bl (!decide (x = .non))) H) := op_notN
theorem ixP (hK : X.K = K := by rfl) : IxR X (rIx K) := by
  subst hK
  exact ix_seq
theorem slP (hK : X.K = K := by rfl) : SlR X (fun x lo hi H Q => rSlL K x lo hi H Q ∨ rSlA K x lo hi H Q ∨ rSlS x lo hi H Q) := by
  subst hK
  exact sl_list.or (sl_tupA.or sl_str)
theorem callLenP (hK : X.K = K := by rfl) : CallR X (.builtin "len") (fun xs H Q => (∃ p ys, xs = [.ref p] ∧ (SqL K H p ys ∨ SqT K H p ys) ∧ Q (.int ys.length) H) ∨ (∃ z, xs = [.str z] ∧ z.length ≤ sizeLine ∧ Q (.int z.length) H)) := by
  subst hK
  exact call_len_seq.or call_len_str
theorem callListP (hK : X.K = K := by rfl) : CallR X (.type "list") (fun xs H Q => ∃ p ys, xs = [.ref p] ∧ (SqL K H p ys ∨ SqT K H p ys) ∧ ∀ l, H l = none → Q (.ref l) (upd H l (.lst ys))) := by
  subst hK
  exact call_list_of
theorem callTupleP (hK : X.K = K := by rfl) : CallR X (.type "tuple") (fun xs H Q => ∃ p ys, xs = [.ref p] ∧ ((SqL K H p ys ∧ ∀ l, H l = none → Q (.ref l) (upd H l (.tup ys))) ∨ (SqT K H p ys ∧ Q (.ref p) H))) := by
  subst hK
  exact call_tuple_of
theorem pe_fldP {e : Expr} {f : Str} {pos : Pos} {ta : TE} (he : PE X e ta) (hb : attributeBase e f X.env (eval e X.env) = eval e X.env) (hK : X.K = K := by rfl) : PE X (.Attribute e f pos) (tFld K ta f) := by
  subst hK
  exact pe_fld he hb
theorem pi_listP {tg l : Expr} {tl : TE} (hl : PE X l tl) (hK : X.K = K := by rfl) : PI X tg l (iList K tl) := by
  subst hK
  exact pi_list hl
theorem pi_tupP {tg l : Expr} {tl : TE} (hl : PE X l tl) (hK : X.K = K := by rfl) : PI X tg l (iTup K tl) := by
  subst hK
  exact pi_tup hl
theorem pe_revP {e : Expr} {te : TE} {k : Nat} {p1 p2 p3 pos : Pos} (he : PE X e te) (hK : X.K = K := by rfl) : PE X (.Subscript e (.Slice none none (some (.UnaryOp .USub (.Constant (.int 1) k p1) p2)) p3) pos) (tRevL K te) := by
  subst hK
  exact pe_revL he
end
theorem callStrP : CallR X (.type "str") (fun xs H Q => (∃ i, xs = [.int i] ∧ i.natAbs.log2 < 1920 ∧ Q (.str (toString i)) H) ∨ (∃ a, xs = [.str a] ∧ Q (.str a) H)) := call_str_int.or SkE.call_str_str
end
end Kq

namespace Kq
open PySem PySem.Spec PyProof.Rows L2

/-! ## the pen: what draws -/
/-- all that stands but the pen -/
def Im (H : Hp) (p : Addr) : Hp := fun b => if b = p then none else H b
theorem Im_of {H : Hp} {p a : Addr} {o : HO} (e : H a = some o) (h : a ≠ p) : Im H p a = some o := by unfold Im; rw [if_neg h]; exact e
theorem Im_get {H : Hp} {p a : Addr} {o : HO} (h : Im H p a = some o) : H a = some o ∧ a ≠ p := by
  unfold Im at h
  split at h
  · cases h
  · rename_i z
    exact ⟨h, z⟩
theorem Im_sub {H : Hp} {p : Addr} : Same (Im H p) H := fun _ _ h => (Im_get h).1
theorem Im_none {H : Hp} {p a : Addr} (h : H a = none) : Im H p a = none := by
  unfold Im
  split
  · rfl
  · exact h
theorem Same.upd {H : Hp} {a : Addr} {o : HO} (h : H a = none) : Same H (L2.upd H a o) := fun b u e => by
  rw [upd_ne (ne_of_none e h)]
  exact e
theorem Same.updI {H : Hp} {a p : Addr} {o : HO} (h : H a = none) : Same (Im H p) (Im (L2.upd H a o) p) := fun b u e => by
  obtain ⟨e1, e2⟩ := Im_get e
  exact Im_of (by rw [upd_ne (ne_of_none e1 h)]; exact e1) e2
theorem Same.updP {H : Hp} {p : Addr} {o : HO} : Same (Im H p) (Im (L2.upd H p o) p) := fun b u e => by
  obtain ⟨e1, e2⟩ := Im_get e
  exact Im_of (by rw [upd_ne e2]; exact e1) e2
theorem sameIm {H H' : Hp} {p : Addr} (h : Same H H') : Same (Im H p) (Im H' p) := fun b u e => by
  obtain ⟨e1, e2⟩ := Im_get e
  exact Im_of (h _ _ e1) e2
theorem Im_upd {H : Hp} {a p : Addr} {o : HO} (h : a ≠ p) : Im (L2.upd H a o) p a = some o := Im_of upd_same h

def PenAt (H : Hp) (p c : Addr) (n : Nat) : Prop := ∃ (ns : List Int) (k r : Int), H p = some (.lst [.ref c, .int k, .int r]) ∧ H c = some (.lst (ns.map V.int)) ∧ ns.length ≤ 63 ∧ 0 ≤ k ∧ k ≤ n
theorem PenAt.some {H : Hp} {p c : Addr} {n : Nat} (h : PenAt H p c n) : H p ≠ none := by
  obtain ⟨ns, k, r, hp, _⟩ := h
  rw [hp]
  simp
theorem PenAt.ne {H : Hp} {p c : Addr} {n : Nat} (h : PenAt H p c n) {a : Addr} (ha : H a = none) : a ≠ p := by
  rintro rfl
  exact h.some ha
theorem PenAt.neC {H : Hp} {p c : Addr} {n : Nat} (h : PenAt H p c n) {a : Addr} (ha : H a = none) : a ≠ c := by
  rintro rfl
  obtain ⟨ns, k, r, hp, hc, _⟩ := h
  rw [ha] at hc
  cases hc
theorem PenAt.mono {H : Hp} {p c : Addr} {n m : Nat} (h : PenAt H p c n) (hm : n ≤ m) : PenAt H p c m := by
  obtain ⟨ns, k, r, hp, hc, h1, h2, h3⟩ := h
  exact ⟨ns, k, r, hp, hc, h1, h2, by omega⟩
theorem PenAt.same {H H' : Hp} {p c : Addr} {n : Nat} (h : PenAt H p c n) (s : Same H H') : PenAt H' p c n := by
  obtain ⟨ns, k, r, hp, hc, h1, h2, h3⟩ := h
  exact ⟨ns, k, r, s _ _ hp, s _ _ hc, h1, h2, h3⟩
theorem PenAt.upd {H : Hp} {p c a : Addr} {n : Nat} {o : HO} (h : PenAt H p c n) (ha : H a = none) : PenAt (L2.upd H a o) p c n := h.same (Same.upd ha)
/-- another object is changed -/
theorem PenAt.put {H : Hp} {p c a : Addr} {n : Nat} {o : HO} (h : PenAt H p c n) (h1 : a ≠ p) (h2 : a ≠ c) : PenAt (L2.upd H a o) p c n := by
  obtain ⟨ns, k, r, hp, hc, h3⟩ := h
  exact ⟨ns, k, r, by rw [upd_ne h1.symm]; exact hp, by rw [upd_ne h2.symm]; exact hc, h3⟩
/-- an object that was not there at the start is changed -/
theorem samePut {H H' : Hp} {p a : Addr} {o : HO} (s : Same (Im H p) (Im H' p)) (h : H a = none) : Same (Im H p) (Im (L2.upd H' a o) p) := fun b u e => by
  obtain ⟨e1, e2⟩ := Im_get (s _ _ e)
  refine Im_of ?_ e2
  rw [upd_ne]
  · exact e1
  · rintro rfl
    rw [(Im_get e).1] at h
    cases h
/-- what draws at most m times -/
def PenSp (m : Nat) (pre : List V → Hp → Prop) (post : List V → V → Hp → Prop) : Sp := fun vs H Q _ => ∃ (p c : Addr) (n : Nat) (rest : List V), vs = .ref p :: rest ∧ PenAt H p c n ∧ n + m ≤ 4194304 ∧ pre rest (Im H p) ∧
  ∀ v H', PenAt H' p c (n + m) → Same (Im H p) (Im H' p) → post rest v (Im H' p) → Q v H'

def spPen (K : PySem.W.Frag) : Sp := fun vs H Q _ => ∃ (a : Addr) (ns : List Int), vs = [.ref a] ∧ SqL K H a (ns.map V.int) ∧ ns.length ≤ 63 ∧ ∀ p c H', H p = none → H c = none → PenAt H' p c 0 → Same H H' → Q (.ref p) H'
def preDraw : List V → Hp → Prop := fun vs _ => ∃ m : Int, vs = [.int m] ∧ 0 < m ∧ m < 1073741824
def postDraw : List V → V → Hp → Prop := fun vs v _ => ∃ m r : Int, vs = [.int m] ∧ v = .int r ∧ 0 ≤ r ∧ r < m
def spDraw : Sp := PenSp 1 preDraw postDraw
/-- something indexed: a list, a tuple, a text; not empty -/
def Some1 (h : Hp) (x : V) : Prop := (∃ a xs, x = .ref a ∧ (h a = some (.lst xs) ∨ h a = some (.tup xs)) ∧ xs ≠ [] ∧ xs.length ≤ 100000) ∨ (∃ s : Str, x = .str s ∧ 0 < s.length ∧ s.length ≤ 100000)
def In1 (h : Hp) (x v : V) : Prop := (∃ a xs, x = .ref a ∧ (h a = some (.lst xs) ∨ h a = some (.tup xs)) ∧ v ∈ xs) ∨ (∃ (s : Str) (c : Nat), x = .str s ∧ c ∈ s.cps.toList ∧ v = .str ⟨#[c]⟩)
def prePick : List V → Hp → Prop := fun vs h => ∃ x, vs = [x] ∧ Some1 h x
def postPick : List V → V → Hp → Prop := fun vs v h => ∃ x, vs = [x] ∧ In1 h x v
def spPick : Sp := PenSp 1 prePick postPick
/-- a word -/
def IsW (s : Str) : Prop := 1 ≤ s.length ∧ s.length ≤ 8 ∧ ∀ c ∈ s.cps.toList, 97 ≤ c ∧ c ≤ 122
def preWord : List V → Hp → Prop := fun vs _ => vs = []
def postWord : List V → V → Hp → Prop := fun _ v _ => ∃ s, v = .str s ∧ IsW s
def spWord : Sp := PenSp 10 preWord postWord
def preWords : List V → Hp → Prop := fun vs _ => ∃ m : Int, vs = [.int m] ∧ 0 ≤ m ∧ m ≤ 52
def postWords : List V → V → Hp → Prop := fun vs v h => ∃ (m : Int) (a : Addr) (ws : List Str), vs = [.int m] ∧ v = .ref a ∧ h a = some (.lst (ws.map V.str)) ∧ (ws.length : Int) = m ∧ ws.Nodup ∧ ∀ s ∈ ws, IsW s
def spWords : Sp := PenSp 520 preWords postWords
/-! ### arithmetic of the draw -/
theorem mix1 {k : Int} (h0 : 0 ≤ k) (h : k ≤ 4194304) (a b c : Int) (ha : 0 ≤ a) (ha2 : a < 4294967296) (hb : 0 ≤ b) (hb2 : b ≤ 100000) (hc : 0 ≤ c) (hc2 : c ≤ 100000) : (a + b * k + c).natAbs < 2 ^ 64 := by
  have h1 : 0 ≤ b * k := Int.mul_nonneg hb h0
  have h2 : b * k ≤ 100000 * 4194304 := Int.mul_le_mul hb2 h h0 (by omega)
  omega
theorem mix2 {k : Int} (h0 : 0 ≤ k) (h : k ≤ 4194304) (a b c d e : Int) (ha : 0 ≤ a) (ha2 : a < 4294967296) (hb : 0 ≤ b) (hb2 : b ≤ 100000) (hc : 0 ≤ c) (hc2 : c ≤ 100000) (hd : 0 ≤ d) (hd2 : d ≤ 100000) (he : 0 ≤ e) (he2 : e ≤ 100000) :
    (a * (2 * k + b) + c * k * k + d).natAbs < 2 ^ 64 := by
  have h1 : 0 ≤ 2 * k + b := by omega
  have h2 : 2 * k + b ≤ 8488608 := by omega
  have h3 : 0 ≤ a * (2 * k + b) := Int.mul_nonneg ha h1
  have h4 : a * (2 * k + b) ≤ 4294967296 * 8488608 := Int.mul_le_mul (by omega) h2 h1 (by omega)
  have h5 : 0 ≤ c * k := Int.mul_nonneg hc h0
  have h6 : c * k ≤ 100000 * 4194304 := Int.mul_le_mul hc2 h h0 (by omega)
  have h7 : 0 ≤ c * k * k := Int.mul_nonneg h5 h0
  have h8 : c * k * k ≤ 100000 * 4194304 * 4194304 := Int.mul_le_mul h6 h h0 (by omega)
  omega
theorem cmul_l {a b : Int} (h1 : -(2 ^ 64) < a) (h2 : a < 2 ^ 64) : CMul a b := Or.inl ⟨h1, h2⟩
theorem cmul_r {a b : Int} (h1 : -(2 ^ 64) < b) (h2 : b < 2 ^ 64) : CMul a b := Or.inr ⟨h1, h2⟩
/-- lists of ints, by the layer's own data -/
theorem dp_ints {K : PySem.W.Frag} {H : Hp} : ∀ (ns : List Int), DpAll K H (ns.map V.int) (ns.map PyData.int)
  | [] => .nil
  | n :: ns => .cons (.int n) (dp_ints ns)
theorem lay_ints : ∀ (ns : List Int), PyData.canLayAll0 (ns.map PyData.int) = true
  | [] => rfl
  | n :: ns => by
    rw [List.map_cons]
    unfold PyData.canLayAll0
    rw [lay_ints ns]
    unfold PyData.canLay0
    rfl
theorem depth_ints : ∀ (ns : List Int), PyData.depthAll (ns.map PyData.int) = 0
  | [] => rfl
  | n :: ns => by
    rw [List.map_cons]
    unfold PyData.depthAll PyData.depth
    rw [depth_ints ns]
    rfl
theorem shaped_ints (ns : List Int) : SeqAt.shaped (.list (ns.map PyData.int)) = true := by
  unfold SeqAt.shaped PyData.canLay0 PyData.depth
  rw [lay_ints, depth_ints]
  rfl
theorem eqv_nil (ns : List Int) : PyData.eqv (.list (ns.map PyData.int)) (.list []) = ns.isEmpty := by
  cases ns with
  | nil => simp [PyData.eqv, PyData.eqvAll]
  | cons n ns => simp [PyData.eqv, PyData.eqvAll]
theorem at_mod {ns : List Int} (h : ns ≠ []) (k : Int) : ∃ z : Int, atI (ns.map V.int) (k % (ns.length : Int)) = some (.int z) := by
  have hl : 0 < ns.length := List.length_pos_iff.mpr h
  have h1 : 0 ≤ k % (ns.length : Int) := Int.emod_nonneg _ (by omega)
  have h2 : k % (ns.length : Int) < ns.length := Int.emod_lt_of_pos _ (by omega)
  obtain ⟨j, hj⟩ := Int.eq_ofNat_of_zero_le h1
  have hj2 : j < ns.length := by omega
  refine ⟨ns[j], ?_⟩
  rw [hj]
  exact atI_nat (by rw [List.getElem?_map, List.getElem?_eq_getElem hj2]; rfl)
theorem len_map_int (ns : List Int) : (ns.map V.int).length = ns.length := List.length_map _
end Kq
namespace Kq
open PySem PySem.Spec PyProof.Rows L2
theorem cut_hi (xs : List V) (k : Nat) : cutV xs none (some (k : Int)) = xs.take k := by
  unfold cutV
  rw [HT.sIx_none, HT.sIx_nat, List.drop_zero, Nat.sub_zero, List.take_eq_take_iff]
  omega
theorem cut_lo (xs : List V) (k : Nat) : cutV xs (some (k : Int)) none = xs.drop k := by
  unfold cutV
  rw [HT.sIx_none, HT.sIx_nat]
  by_cases h : k ≤ xs.length
  · rw [Nat.min_eq_left h, List.take_of_length_le]
    exact Nat.le_of_eq (List.length_drop)
  · rw [List.drop_of_length_le (by omega : xs.length ≤ k), Nat.min_eq_right (by omega), List.drop_length]
    simp
/-- behind a store into the pen -/
theorem pen_set {H : Hp} {p c : Addr} {ns : List Int} {k r : Int} {n : Nat} (hc : H c = some (.lst (ns.map V.int))) (hcp : c ≠ p) (hl : ns.length ≤ 63) (h0 : 0 ≤ k) (hk : k ≤ n) : PenAt (upd H p (.lst [.ref c, .int k, .int r])) p c n :=
  ⟨ns, k, r, upd_same, by rw [upd_ne hcp]; exact hc, hl, h0, hk⟩
theorem pen_ne {H : Hp} {p c : Addr} {ns : List Int} {k r : Int} (hp : H p = some (.lst [.ref c, .int k, .int r])) (hc : H c = some (.lst (ns.map V.int))) : c ≠ p := by
  rintro rfl
  rw [hp] at hc
  cases ns with
  | nil => cases hc
  | cons a b => cases hc
end Kq
namespace Kq
open PySem PySem.Spec PyProof.Rows L2
theorem str_ext {a b : Str} (h : a.cps.toList = b.cps.toList) : a = b := by
  obtain ⟨x⟩ := a
  obtain ⟨y⟩ := b
  congr 1
  exact Array.ext' h
theorem str_len (a : Str) : a.length = a.cps.toList.length := by rw [Array.length_toList]; rfl
theorem str_app (a b : Str) : (a ++ b).cps.toList = a.cps.toList ++ b.cps.toList := by
  show (a.cps ++ b.cps).toList = _
  rw [Array.toList_append]
theorem empty_cps : (Str.ofString "").cps.toList = [] := by decide +kernel
theorem join_sep (sep : Str) (h : sep.cps.toList = []) : ∀ ws : List Str, (Str.join sep ws).cps.toList = (ws.map (·.cps.toList)).flatten
  | [] => rfl
  | [x] => by
    show x.cps.toList = _
    simp
  | x :: y :: r => by
    show (x ++ sep ++ Str.join sep (y :: r)).cps.toList = _
    rw [str_app, str_app, join_sep sep h (y :: r), h]
    simp
theorem txt_join (sep : Str) (ws : List Str) : Txt.join sep ws = Str.join sep ws := StrLaws.glued_eq_join sep ws
theorem join0 (ws : List Str) : (Txt.join (Str.ofString "") ws).cps.toList = (ws.map (·.cps.toList)).flatten := by
  rw [txt_join, join_sep _ empty_cps]
theorem join_signs (cs : List Nat) : Txt.join (Str.ofString "") (cs.map fun c => (⟨#[c]⟩ : Str)) = ⟨cs.toArray⟩ := by
  apply str_ext
  rw [join0, List.map_map]
  induction cs with
  | nil => rfl
  | cons c cs ih =>
    rw [List.map_cons, List.flatten_cons, ih]
    rfl
theorem In1.lst {h : Hp} {a : Addr} {xs : List V} {v : V} (hi : In1 h (.ref a) v) (ha : h a = some (.lst xs)) : v ∈ xs := by
  rcases hi with ⟨b, ys, e, hb, hv⟩ | ⟨s, c, e, _⟩
  · cases e
    rcases hb with hb | hb
    · rw [ha] at hb
      cases hb
      exact hv
    · rw [ha] at hb
      cases hb
  · cases e
theorem In1.tup {h : Hp} {a : Addr} {xs : List V} {v : V} (hi : In1 h (.ref a) v) (ha : h a = some (.tup xs)) : v ∈ xs := by
  rcases hi with ⟨b, ys, e, hb, hv⟩ | ⟨s, c, e, _⟩
  · cases e
    rcases hb with hb | hb
    · rw [ha] at hb
      cases hb
    · rw [ha] at hb
      cases hb
      exact hv
  · cases e
theorem In1.str {h : Hp} {s : Str} {v : V} (hi : In1 h (.str s) v) : ∃ c, c ∈ s.cps.toList ∧ v = .str ⟨#[c]⟩ := by
  rcases hi with ⟨b, ys, e, hb, hv⟩ | ⟨s', c, e, hc, hv⟩
  · cases e
  · cases e
    exact ⟨c, hc, hv⟩
/-- a text of letters, not empty -/
def Lets (s : Str) : Prop := 0 < s.length ∧ s.length ≤ 100000 ∧ ∀ c ∈ s.cps.toList, 97 ≤ c ∧ c ≤ 122
def letsB (s : Str) : Bool := decide (0 < s.length) && decide (s.length ≤ 100000) && s.cps.toList.all fun c => decide (97 ≤ c) && decide (c ≤ 122)
theorem lets_of {s : Str} (h : letsB s = true) : Lets s := by
  unfold letsB at h
  simp only [Bool.and_eq_true, decide_eq_true_eq, List.all_eq_true] at h
  exact ⟨h.1.1, h.1.2, h.2⟩
theorem isW_signs {cs : List Nat} (h1 : 1 ≤ cs.length) (h2 : cs.length ≤ 8) (h : ∀ c ∈ cs, 97 ≤ c ∧ c ≤ 122) : IsW ⟨cs.toArray⟩ := ⟨h1, h2, h⟩
theorem pen_ref {H : Hp} {p c : Addr} {n : Nat} (h : PenAt H p c n) {a : Addr} {o : HO} (ha : Im H p a = some o) : a ≠ p := (Im_get ha).2
/-- carried by what a pen's def leaves -/
theorem same_at {H H' : Hp} {p a : Addr} {o : HO} (s : Same (Im H p) (Im H' p)) (h : H a = some o) (hne : a ≠ p) : H' a = some o := (Im_get (s _ _ (Im_of h hne))).1
end Kq
namespace Kq
open PySem PySem.Spec PyProof.Rows L2
/-- a comprehension without a test -/
theorem tYes_go {σ : L2.St} {H : Hp} {A B : Hp → Prop} (h : A H) : tYes σ H (fun b H3 => if b = true then A H3 else B H3) := by
  show (if true = true then A H else B H)
  rw [if_pos rfl]
  exact h
end Kq

namespace Kq
open PySem PySem.Spec PyProof.Rows L2
/-! ## small helps for bodies -/
theorem sput {H H' : Hp} {a : Addr} {o : HO} (s : Same H H') (h : H a = none) : Same H (L2.upd H' a o) := fun b u e => by
  rw [upd_ne (ne_of_none e h)]
  exact s _ _ e
theorem inV_strs (x : Str) (ws : List Str) : inV (.str x) (ws.map V.str) = decide (x ∈ ws) := by
  unfold inV
  rw [List.any_map]
  induction ws with
  | nil => rfl
  | cons w ws ih =>
    rw [List.any_cons, ih]
    show (w == x || _) = _
    rw [Bool.eq_iff_iff, Bool.or_eq_true, beq_iff_eq, decide_eq_true_eq, decide_eq_true_eq, List.mem_cons]
    exact ⟨fun h => h.imp Eq.symm id, fun h => h.imp Eq.symm id⟩
theorem flat_strs (ws : List Str) : (ws.map V.str).all flatV = true := by
  rw [List.all_map, List.all_eq_true]
  exact fun _ _ => rfl
theorem flat_ints (ws : List Int) : (ws.map V.int).all flatV = true := by
  rw [List.all_map, List.all_eq_true]
  exact fun _ _ => rfl
theorem nodup_le : ∀ {A B : List Str}, A.Nodup → (∀ x ∈ A, x ∈ B) → A.length ≤ B.length
  | [], _, _, _ => Nat.zero_le _
  | a :: A, B, hn, hs => by
    have hn' := List.nodup_cons.mp hn
    have h1 : a ∈ B := hs a (List.mem_cons_self ..)
    have h2 := nodup_le (B := B.erase a) hn'.2 fun x hx => (List.mem_erase_of_ne (by rintro rfl; exact hn'.1 hx)).mpr (hs x (List.mem_cons_of_mem _ hx))
    rw [List.length_erase_of_mem h1] at h2
    have := List.length_pos_of_mem h1
    rw [List.length_cons]
    omega
theorem spare_left {A ws : List Str} (hA : A.Nodup) (h : ws.length < A.length) : A.filter (fun x => !decide (x ∈ ws)) ≠ [] := by
  intro e
  have : A.length ≤ ws.length := nodup_le hA fun x hx => by
    rw [List.filter_eq_nil_iff] at e
    have := e x hx
    simpa using this
  omega
theorem at0 {α : Type} {xs : List α} (h : xs ≠ []) : ∃ x, xs[0]? = some x ∧ x ∈ xs := by
  cases xs with
  | nil => exact absurd rfl h
  | cons a b => exact ⟨a, rfl, List.mem_cons_self ..⟩
/-- the text's signs -/
def signsOf (z : Str) : List Str := z.cps.toList.map fun c => ⟨#[c]⟩
theorem signsOf_len (z : Str) : (signsOf z).length = z.cps.size := by
  unfold signsOf
  rw [List.length_map, Array.length_toList]
theorem signsOf_get {z : Str} {i : Nat} {c : Nat} (h : z.cps[i]? = some c) : (signsOf z)[i]? = some ⟨#[c]⟩ := by
  unfold signsOf
  rw [List.getElem?_map, Array.getElem?_toList, h]
  rfl
theorem take_succ' {α : Type} {xs : List α} {i : Nat} {x : α} (h : xs[i]? = some x) : xs.take (i + 1) = xs.take i ++ [x] := by
  rw [List.take_add_one, h]
  rfl
theorem take_all {α : Type} (xs : List α) : xs.take xs.length = xs := List.take_length
theorem get_map_str {ws : List Str} {i : Nat} {v : V} (h : (ws.map V.str)[i]? = some v) : ∃ w, ws[i]? = some w ∧ v = .str w := by
  rw [List.getElem?_map] at h
  cases e : ws[i]? with
  | none => rw [e] at h; cases h
  | some w => rw [e] at h; cases h; exact ⟨w, rfl, rfl⟩
/-- a whole alphabet of single signs, and the same behind q -/
def spareOf (z q : Str) : List Str := signsOf z ++ (signsOf z).map fun s => q ++ s
def isWB (s : Str) : Bool := decide (1 ≤ s.length) && decide (s.length ≤ 8) && s.cps.toList.all fun c => decide (97 ≤ c) && decide (c ≤ 122)
theorem isW_of {s : Str} (h : isWB s = true) : IsW s := by
  unfold isWB at h
  simp only [Bool.and_eq_true, decide_eq_true_eq, List.all_eq_true] at h
  exact ⟨h.1.1, h.1.2, h.2⟩
theorem isW_all {ws : List Str} (h : ws.all isWB = true) : ∀ s ∈ ws, IsW s := fun s hs => isW_of (List.all_eq_true.mp h s hs)
theorem spare_nodup : (spareOf (Str.ofString "abcdefghijklmnopqrstuvwxyz") (Str.ofString "q")).Nodup := by decide +kernel
theorem spare_isW : ∀ s ∈ spareOf (Str.ofString "abcdefghijklmnopqrstuvwxyz") (Str.ofString "q"), IsW s := isW_all (by decide +kernel)
theorem spare_len : (spareOf (Str.ofString "abcdefghijklmnopqrstuvwxyz") (Str.ofString "q")).length = 52 := by decide +kernel
theorem map_strs (ws us : List Str) : ws.map V.str ++ us.map V.str = (ws ++ us).map V.str := (List.map_append).symm
theorem nodup_snoc {A : List Str} {x : Str} (h : A.Nodup) (hx : x ∉ A) : (A ++ [x]).Nodup := by
  rw [List.nodup_append]
  refine ⟨h, by simp, ?_⟩
  intro a ha b hb
  rw [List.mem_singleton] at hb
  subst hb
  rintro rfl
  exact hx ha
end Kq

namespace Kq
open PySem PySem.Spec PyProof.Rows L2
/-! ## making instances of own classes; own methods -/
structure MkProm (P : Program) (w : World) (K : PySem.W.Frag) (mg : Str → Option Value) (base : Heap) (k : Nat) (x : Str) (C : Addr) (ps : List Str) (sp : Sp) : Prop where
  hm : mg x = some (.ref C)
  ex : ∃ f fd, Mk K C f ∧ Binds K fd ps [] ∧ FnOk P w K mg base CX0 k f fd ps sp
/-- the same, by keywords ks behind n values -/
structure MkKw (P : Program) (w : World) (K : PySem.W.Frag) (mg : Str → Option Value) (base : Heap) (k : Nat) (x : Str) (C : Addr) (ps : List Str) (sp : Sp) (n : Nat) (ks : List Str) (gV : List V → List V → List V) : Prop where
  hm : mg x = some (.ref C)
  ex : ∃ f fd, Mk K C f ∧ (∃ g, KBn K fd ps (n + 1) ks g gV) ∧ FnOk P w K mg base CX0 k f fd ps sp
section
variable {X : Cx} {k j n : Nat} {C : Addr} {ps ks : List Str} {sp : Sp} {x : Str} {p pos : Pos} {e : Expr} {es : List Expr} {t tk : TA} {kws : List Keyword} {gV : List V → List V → List V}
theorem pe_m (F : MkProm X.prog X.w X.K X.mg X.base k x C ps sp) (hr : Room j X.A) (hj : k + 1 ≤ j) (ha : PA X (e :: es) t) (hg : Gl X x := by rfl)
    (hdb : (x == ("__debug__" : Str)) = false := by decide) (he : starEach (e :: es) X.env = (false, eval e X.env) :: starEach es X.env := by rfl)
    (hpl : (backTo pos (starEach es X.env)).any (·.1) = false := by rfl) : PE X (.Call (.Name x p) (e :: es) [] pos) (tMake C sp [] E0 t) := by
  obtain ⟨f, fd, M, hb, G⟩ := F.ex
  exact pe_make M G (hr.mono hj) hg F.hm hb .nil pass0 ha hdb he hpl
theorem pe_mk (F : MkKw X.prog X.w X.K X.mg X.base k x C ps sp n ks gV) (hr : Room j X.A) (hj : k + 1 ≤ j) (ha : PA X (e :: es) t) (hkw : PK X kws tk) (hg : Gl X x := by rfl)
    (hall : (backToKw pos (keywordEach kws X.env)).all (·.1.isSome) = true := by rfl) (hks : (backToKw pos (keywordEach kws X.env)).filterMap (·.1) = ks := by rfl)
    (hdb : (x == ("__debug__" : Str)) = false := by decide) (he : starEach (e :: es) X.env = (false, eval e X.env) :: starEach es X.env := by rfl)
    (hpl : ((backTo pos (starEach (e :: es) X.env)).any (·.1) || (backToKw pos (keywordEach kws X.env)).any (·.1.isNone)) = false := by rfl) :
    PE X (.Call (.Name x p) (e :: es) kws pos) (tMakeN C n ks.length sp gV E0 t tk) := by
  obtain ⟨f, fd, M, ⟨g, hb⟩, G⟩ := F.ex
  exact pe_makeN M G (hr.mono hj) hg F.hm hb pass0 ha hkw hall hks hdb he hpl
end
end Kq

namespace Kq
open PySem PySem.Spec PyProof.Rows L2
/-! ## small data: its repr fits -/
structure Sm (d : PyData) : Prop where
  sh : d.showable = true
  dp : d.depth ≤ 8
  ln : d.shown.length ≤ 20000
theorem sm_none : Sm .none := ⟨rfl, Nat.zero_le _, by decide +kernel⟩
theorem sm_bool (b : Bool) : Sm (.bool b) := ⟨rfl, Nat.zero_le _, by cases b <;> decide +kernel⟩
theorem log2_lt {n k : Nat} (h : n < 2 ^ k) (hk : 0 < k) : n.log2 < k := by
  by_cases h0 : n = 0
  · subst h0
    rw [show Nat.log2 0 = 0 from rfl]
    exact hk
  · exact (Nat.log2_lt h0).mpr h
theorem sm_int {i : Int} (h : i.natAbs.log2 < 1920) : Sm (.int i) := ⟨decide_eq_true h, Nat.zero_le _, Nat.le_trans (int_text_len_1921 h) (by decide)⟩
theorem sm_str {x : Str} (h1 : x.length ≤ 1500) (h2 : ∀ c ∈ x.cps.toList, c < 16 ^ 8) : Sm (.str x) := ⟨rfl, Nat.zero_le _, by
  show (reprText x).length ≤ _
  have := StrLaws.reprText_len x h2
  omega⟩
theorem isW_signs8 {s : Str} (h : IsW s) : ∀ c ∈ s.cps.toList, c < 16 ^ 8 := fun c hc => by
  have := (h.2.2 c hc).2
  omega
theorem sm_word {s : Str} (h : IsW s) : Sm (.str s) := sm_str (by have := h.2.1; omega) (isW_signs8 h)
theorem textFrom_le : ∀ (ts : List Str) (k : Nat) (acc : Str), (textFrom k acc ts).length ≤ acc.length + (ts.map (·.length)).sum + 2 * ts.length
  | [], k, acc => Nat.le_refl _
  | t :: r, k, acc => by
    have h := textFrom_le r (k + 1) (acc ++ (if k > 0 then ", " else "" : String) ++ t)
    have e : (acc ++ (if k > 0 then ", " else "" : String) ++ t).length ≤ acc.length + 2 + t.length := by
      rw [strLen_append, strLen_append]
      split
      · show acc.length + 2 + t.length ≤ _
        omega
      · show acc.length + 0 + t.length ≤ _
        omega
    show (textFrom (k + 1) _ r).length ≤ _
    rw [List.map_cons, List.sum_cons, List.length_cons]
    omega
theorem listText_le (ts : List Str) : (listText ts).length ≤ (ts.map (·.length)).sum + 2 * ts.length + 2 := by
  unfold listText
  rw [strLen_append]
  have := textFrom_le ts 0 "["
  have h1 : (Str.ofString "[").length = 1 := by decide +kernel
  have h2 : (Str.ofString "]").length = 1 := by decide +kernel
  have h3 : ("[" : Str).length = 1 := h1
  have h4 : ("]" : Str).length = 1 := h2
  omega
theorem join_len (sep : Str) (h : sep.length ≤ 2) : ∀ ts : List Str, (Str.join sep ts).length ≤ (ts.map (·.length)).sum + 2 * ts.length
  | [] => by show 0 ≤ _; omega
  | [x] => by show x.length ≤ _; simp
  | x :: y :: r => by
    show (x ++ sep ++ Str.join sep (y :: r)).length ≤ _
    have := join_len sep h (y :: r)
    rw [strLen_append, strLen_append, List.map_cons, List.sum_cons, List.length_cons]
    omega
theorem tupleText_le (ts : List Str) : (tupleText ts).length ≤ (ts.map (·.length)).sum + 2 * ts.length + 3 := by
  unfold tupleText
  rw [strLen_append, strLen_append]
  have := join_len ", " (by decide +kernel) ts
  have h1 : ("(" : Str).length = 1 := by decide +kernel
  have h2 : ((if ts.length == 1 then ",)" else ")" : String) : Str).length ≤ 2 := by
    split <;> decide +kernel
  omega
theorem shownAll_eq : ∀ ds : List PyData, PyData.shownAll ds = ds.map PyData.shown
  | [] => rfl
  | d :: ds => by
    rw [List.map_cons, ← shownAll_eq ds]
    rfl
theorem showableAll_of : ∀ {ds : List PyData}, (∀ d ∈ ds, Sm d) → PyData.showableAll ds = true
  | [], _ => rfl
  | d :: ds, h => by
    show (d.showable && PyData.showableAll ds) = true
    rw [(h d (List.mem_cons_self ..)).sh, showableAll_of fun e he => h e (List.mem_cons_of_mem _ he)]
    rfl
theorem depthAll_of {n : Nat} : ∀ {ds : List PyData}, (∀ d ∈ ds, d.depth ≤ n) → PyData.depthAll ds ≤ n
  | [], _ => Nat.zero_le _
  | d :: ds, h => by
    show max d.depth (PyData.depthAll ds) ≤ n
    have h1 := h d (List.mem_cons_self ..)
    have h2 := depthAll_of (n := n) fun e (he : e ∈ ds) => h e (List.mem_cons_of_mem _ he)
    omega
theorem sum_le {n : Nat} : ∀ {ts : List Nat}, (∀ t ∈ ts, t ≤ n) → ts.sum ≤ n * ts.length
  | [], _ => Nat.zero_le _
  | t :: ts, h => by
    have h1 := h t (List.mem_cons_self ..)
    have h2 := sum_le (n := n) fun e (he : e ∈ ts) => h e (List.mem_cons_of_mem _ he)
    rw [List.sum_cons, List.length_cons, Nat.mul_add]
    omega
/-- a list of at most 100 of them fits -/
theorem sm_list {ds : List PyData} (h : ∀ d ∈ ds, Sm d) (hl : ds.length ≤ 100) : (PyData.list ds).showable = true ∧ (PyData.list ds).depth ≤ 30 ∧ (PyData.list ds).shown.length ≤ sizeLine := by
  refine ⟨showableAll_of h, ?_, ?_⟩
  · show PyData.depthAll ds + 1 ≤ 30
    have := depthAll_of (n := 8) fun d hd => (h d hd).dp
    omega
  · show (listText (PyData.shownAll ds)).length ≤ sizeLine
    have h1 := listText_le (PyData.shownAll ds)
    have h2 : ((PyData.shownAll ds).map (·.length)).sum ≤ 20000 * ((PyData.shownAll ds).map (·.length)).length := sum_le fun t ht => by
      rw [shownAll_eq, List.map_map] at ht
      obtain ⟨d, hd, rfl⟩ := List.mem_map.mp ht
      exact (h d hd).ln
    have h3 : (PyData.shownAll ds).length = ds.length := by rw [shownAll_eq, List.length_map]
    have sz : (sizeLine : Nat) = 16777216 := sizeLine_eq
    rw [List.length_map, h3] at h2
    rw [h3] at h1
    omega
/-! ## str of an instance with an own one -/
structure StrCls (K : PySem.W.Frag) (C f : Addr) : Prop where
  hs : PySem.W.findIn K (.ref C) "__str__" = some (some (.ref f))
  hf : PySem.W.isFn K (.ref f) = true
section
variable {X : Cx} {k : Nat} {C f : Addr} {fd : FuncData} {ps : List Str} {sp : Sp}
def rStrOwn (C : Addr) (sp : Sp) : List V → Hp → VK → Prop := fun xs H Q => ∃ a dx fs, xs = [.ref a] ∧ H a = some (.ins C dx fs) ∧ sp [.ref a] H (fun v H' => ∃ y, v = .str y ∧ Q (.str y) H') E0
theorem call_strOwn (F : FnOk X.prog X.w X.K X.mg X.base CX0 k f fd ps sp) (hb : Binds X.K fd ps []) (ec : StrCls X.K C f) {j : Nat} (hr : Room j X.A) (hj : k + 2 ≤ j) : CallR X (.type "str") (rStrOwn C sp) := by
  intro pins s σ H xs us Q I r h
  obtain ⟨a, dx, fs, rfl, ha, hsp⟩ := h
  obtain ⟨u, rfl, rx⟩ := vals1 r
  cases rx
  obtain ⟨mA, O, _⟩ := ins_get I.hok ha
  obtain ⟨od, J, _⟩ := O.look
  have hr2 := (hr.mono hj).in1.in1
  refine PySem.W.kso_call hr2.units0 I.kIn J ec.hs ec.hf ?_
  refine wpAny_mono (run_at F hb hr2 rfl (vs := [.ref a]) I (.cons rfl .nil) hsp) (fun v s' z => ?_) fun _ _ e => e
  obtain ⟨v', H', I', rv, y, rfl, q⟩ := z
  obtain ⟨t, rfl⟩ := rv
  exact ⟨.str y, H', I', ⟨t, rfl⟩, q⟩
end
end Kq
namespace Kq
open PySem PySem.Spec PyProof.Rows L2
/-! ## own == and != of a class, as promises -/
structure EqProm (P : Program) (w : World) (K : PySem.W.Frag) (mg : Str → Option Value) (base : Heap) (k : Nat) (C : Addr) (sp : Sp) : Prop where
  ex : ∃ f fd ps, EqCls K C f ∧ Binds K fd ps [] ∧ FnOk P w K mg base CX0 k f fd ps sp
structure StrProm (P : Program) (w : World) (K : PySem.W.Frag) (mg : Str → Option Value) (base : Heap) (k : Nat) (C : Addr) (sp : Sp) : Prop where
  ex : ∃ f fd ps, StrCls K C f ∧ Binds K fd ps [] ∧ FnOk P w K mg base CX0 k f fd ps sp
section
variable {X : Cx} {K : PySem.W.Frag} {k j : Nat} {C : Addr} {sp : Sp}
theorem opOE (F : EqProm X.prog X.w X.K X.mg X.base k C sp) (hr : Room j X.A) (hj : k ≤ j) (hK : X.K = K := by rfl) : OpR X (compareOp .Eq) (rOwn K C sp false) := by
  subst hK
  obtain ⟨f, fd, ps, ec, hb, G⟩ := F.ex
  exact op_ownEq G hb ec hr hj
theorem opON (F : EqProm X.prog X.w X.K X.mg X.base k C sp) (hr : Room j X.A) (hj : k + 1 ≤ j) (hK : X.K = K := by rfl) : OpR X (compareOp .NotEq) (rOwn K C sp true) := by
  subst hK
  obtain ⟨f, fd, ps, ec, hb, G⟩ := F.ex
  exact op_ownNe G hb ec hr hj
theorem callSO (F : StrProm X.prog X.w X.K X.mg X.base k C sp) (hr : Room j X.A) (hj : k + 2 ≤ j) : CallR X (.type "str") (rStrOwn C sp) := by
  obtain ⟨f, fd, ps, ec, hb, G⟩ := F.ex
  exact call_strOwn G hb ec hr hj
end
end Kq
namespace Kq
open PySem PySem.Spec PyProof.Rows L2
/-- the same for a def that lets nothing out -/
theorem Fun.okN {P : Program} {w : World} {K : PySem.W.Frag} {mg : Str → Option Value} {base : Heap} {k : Nat} {f : Addr} {fd : FuncData} {N ps : List Str} {sp : Sp} {x qual : Str} {st : Stmt} (F : Fun K x qual st f fd) (S : FnScope N ps (defScope st)) (len : ∀ vs H Q E, sp vs H Q E → vs.length = ps.length)
    (hbody : ∀ (cdv : Value) (A : Around) (outer : List Env) (s : Shared) (H : Hp) (vs : List V) (Q : VK) (E : XK),
      (A.deeper (envOfC qual (defScope st) s.heap.objs.size f cdv)).guards = some [] →
      Room k (A.deeper (envOfC qual (defScope st) s.heap.objs.size f cdv)) → sp vs H Q E →
      ∃ t, PSs (cxOf CX0 P w K mg base N qual (defScope st) f cdv A outer s H E).nox (defBody st) t ∧ t { nx := fun _ H' => Q .non H', rt := Q } (start N vs) H) :
    FnG P w K mg base CX0 (k + 1) f fd ps sp := Fun.okG F S len fun cdv A outer s H vs Q E hgd hr hsp => by
  obtain ⟨t, h, q⟩ := hbody cdv A outer s H vs Q E hgd hr hsp
  exact ⟨t, h.nox, q⟩
end Kq

namespace Kq
open PySem PySem.Spec PyProof.Rows L2
/-! ## the end of a law whose def wants no guarded built-in around it: the harness calls it with none -/
/-- the script's object -/
abbrev scriptO (us : List Value) : Obj := { cls := .type "list", data := .seq us.toArray }
/-- what is tracked at the start: the script, unless it is one of the module's own -/
def HpS (K : PySem.W.Frag) (a : Addr) (us : List Value) (ns : List Int) : Hp := fun b => if b = a ∧ (K.lookup a).isNone = true then some (.frz (scriptO us) (.lst (ns.map V.int))) else none
section
variable {P : Program} {w : World} {K : PySem.W.Frag} {mg mb : Str → Option Value} {k : Nat} {fa a : Addr} {fd : FuncData} {x : Str} {sp : Sp} {s : Shared} {us : List Value} {ns : List Int}
theorem HpS.at {b : Addr} {u : HO} (e : HpS K a us ns b = some u) : b = a ∧ K.lookup a = none ∧ u = .frz (scriptO us) (.lst (ns.map V.int)) := by
  unfold HpS at e
  split at e
  · rename_i h
    cases e
    exact ⟨h.1, Option.isNone_iff_eq_none.mp h.2, rfl⟩
  · cases e
theorem HpS.free {b : Addr} (h : b = a → K.lookup a ≠ none) : HpS K a us ns b = none := by
  cases e : HpS K a us ns b with
  | none => rfl
  | some u => exact absurd (HpS.at e).2.1 (h (HpS.at e).1)
theorem HpS.sq (KX : K.In s.heap) (ha : s.heap.get? a = some (scriptO us)) (hi : IntsAre us ns) (hl : ns.length ≤ sizeLine) : SqL K (HpS K a us ns) a (ns.map V.int) := by
  cases hk : K.lookup a with
  | some o =>
    have e := (KX a o hk).symm.trans ha
    cases e
    exact .inr ⟨_, us.toArray, _, hk, rfl, rfl, rfl, by rw [List.size_toArray, hi.length]; exact hl, by simpa using vals_ints hi⟩
  | none =>
    refine .inl (.inr ⟨scriptO us, ?_⟩)
    unfold HpS
    rw [if_pos ⟨rfl, by rw [hk]; rfl⟩]
theorem HpS.ok (ha : s.heap.get? a = some (scriptO us)) (hi : IntsAre us ns) (hl : ns.length ≤ sizeLine) : HOk P w (HpS K a us ns) s.heap := fun b u e => by
  obtain ⟨rfl, _, rfl⟩ := HpS.at e
  exact ⟨ha, by rw [List.length_map]; exact hl, us, _, vals_ints hi, ha⟩
theorem own_call (KX : K.In s.heap) (hns : s.heap.Ns mainGlobals mg) (hb : s.heap.Ns builtinsNs mb) (hbb : ∀ x : Str, x ≠ "__name__" → mb x = bootBuiltins x) (hlim : s.heap.NoLimit) (hg : s.gens = #[]) (ha : s.heap.get? a = some (scriptO us)) (hi : IntsAre us ns) (hl : ns.length ≤ sizeLine)
    (hr : Room k callerA) (hsy : ∃ mm, s.heap.Ns sysModules mm) (F : ∀ base : Heap, K.In base → base.Ns mainGlobals mg → (∃ o, base.get? sysModules = some o) → FnG P w K mg base CX0 k fa fd [x] sp) (hbind : ∀ (s : Shared) (u : Value), BindsTo s fd ⟨[u], []⟩ [(x, u)])
    (hsp : ∀ H : Hp, SqL K H a (ns.map V.int) → sp [.ref a] H (fun v _ => v = .bl true) E0) :
    codeAny (model P w) callerA (.call (.ref fa) ⟨[.ref a], []⟩) (fun r s' => r = .ok (.ret (.bool true)) ∧ OldK s.heap s'.heap ∧ s'.os = s.os ∧ AllBare s'.gens) s := by
  -- all but the script stands in the base
  have stays : ∀ {b : Addr} {o : Obj}, s.heap.get? b = some o → (b = a → K.lookup a ≠ none) → (hidT s.heap (HpS K a us ns)).get? b = some o := fun e n => hidT_get e (HpS.free n)
  have names : ∀ {b : Addr} {m : Str → Option Value}, s.heap.Ns b m → (hidT s.heap (HpS K a us ns)).Ns b m := fun ⟨o, es, ep, e, d, r⟩ => ⟨o, es, ep, stays e (by
    rintro rfl
    have := e.symm.trans ha
    cases this
    cases d), d, r⟩
  have kin : K.In (hidT s.heap (HpS K a us ns)) := fun b o e => stays (KX b o e) (by
    rintro rfl z
    rw [e] at z
    cases z)
  obtain ⟨mc, c1, c2⟩ := hlim
  have env : Env0 P w K mg (hidT s.heap (HpS K a us ns)) callerA [] s (HpS K a us ns) :=
    { frames := rfl, mod := ⟨kin, names hns, ⟨mb, names hb, hbb⟩, ⟨mc, names c1, c2⟩⟩, bs := fun _ _ e => of_hidT e, bsz := Nat.le_of_eq (hidT_size _ _), funs := trivial, frf := fun b hb => (nomatch (show b ∈ ([] : List Addr) from hb)), hok := HpS.ok ha hi hl, bare := .of_eq hg }
  have run := (F _ kin (names hns) (let ⟨_, h⟩ := hsy; let ⟨o, _, _, e, _⟩ := names h; ⟨o, e⟩)).run callerA [] s _ ⟨[.ref a], []⟩ [.ref a] [.ref a] _ _ rfl hr env (hbind s (.ref a)) (.cons rfl .nil) (hsp _ (HpS.sq KX ha hi hl))
  refine codeAny_mono run fun r s' h => ?_
  match r, h with
  | .error e, h => exact h.elim
  | .ok (.ret u), ⟨v, H', h1, h2, un, ok', rv, q⟩ =>
    have q' : v = .bl true := q
    subst q'
    cases (show u = Value.bool true from rv)
    refine ⟨rfl, OldK.of_keep fun b o e => ?_, h1, h2⟩
    cases t : HpS K a us ns b with
    | none => exact un.keep b o e t (fun z => nomatch (show b ∈ ([] : List Addr) from z)) (by simp)
    | some u =>
      obtain ⟨rfl, _, rfl⟩ := HpS.at t
      have := e.symm.trans ha
      cases this
      exact (ok' _ _ (un.frzs _ _ _ t)).1
end
end Kq
namespace Kq
open PySem PySem.Spec PyProof.Rows L2
theorem own_walk {l : PySem.W.OpenLaw} {n k : Nat} {q : Program} {loose : List Str} {XP : (Str → Option Value) → Heap → Prop} {YP : World → Heap → Prop} {d : DefRec} {K : Params → PySem.W.Frag} {sp : PySem.W.Frag → Sp} {x : Str} (hq : importsNone q = true) (hn : l.most = some n) (hz : n ≤ sizeLine) (hd : d.params.defaults = []) (hr : Room k callerA)
    (hY : ∀ (w : World) (h : Heap), YP w h → (K w.params).In h)
    (F : ∀ (w : World) (mg : Str → Option Value) (fa : Addr) (h : Heap), (K w.params).In h → h.Ns mainGlobals mg → mg d.name = some (.ref fa) →
      ∃ fd : FuncData, (∀ (s : Shared) (v : Value), BindsTo s fd ⟨[v], []⟩ [(x, v)]) ∧ ∀ base : Heap, (K w.params).In base → base.Ns mainGlobals mg → (∃ o, base.get? sysModules = some o) → FnG l.prog w (K w.params) mg base CX0 k fa fd [x] (sp (K w.params)))
    (hsp : ∀ (K : PySem.W.Frag) (H : Hp) (a : Addr) (ns : List Int), ns.length ≤ n → SqL K H a (ns.map V.int) → sp K [.ref a] H (fun v _ => v = .bl true) E0) :
    PySem.W.WalkO q loose XP YP l.row.toRowW d [] (fun f vs => PySem.call f vs) :=
  Att.attach_call hn hd fun w _ s mg _ fa _ _ _ _ a us ns G Y _ _ _ hm ho hi hl hg =>
    have KX := hY w _ Y
    let ⟨_, hb, hF⟩ := F w mg fa _ KX G.T.g hm
    own_call KX G.T.g G.T.b G.T.builtins G.T.nolimit hg ho hi (Nat.le_trans hl hz) hr (let ⟨mm, h, _⟩ := (G.T.seer hq).mods; ⟨mm, h⟩) hF hb fun H hS => hsp _ H a ns hl hS
theorem kb_rel {vs zs : List V} {us ws : List Value} (r1 : Vals vs us) (r2 : Vals zs ws) : Vals (vs ++ zs.reverse) (us ++ ws.reverse) := by
  have rev : ∀ {zs : List V} {ws : List Value}, Vals zs ws → Vals zs.reverse ws.reverse := by
    intro zs ws r
    induction r with
    | nil => exact .nil
    | cons h _ ih =>
      rw [List.reverse_cons, List.reverse_cons]
      exact ih.append (.cons h .nil)
  exact r1.append (rev r2)
end Kq

namespace Kq
open PySem PySem.Spec PyProof.Rows L2
/-! ## sets of texts: set(t) of a tuple or list, len, sorted -/
/-- an entry's text -/
def txtOf (e : Int × Value) : Str := match e.2 with
  | .str k _ => k
  | _ => Str.empty
/-- an entry: a text behind its hash -/
def Ent (P : Program) (w : World) (e : Int × Value) : Prop := ∃ k tk, e.2 = Value.str k tk ∧ e.1 = (PySem.strKind P w).hash k
/-- entries and the table over them -/
structure Lay (P : Program) (w : World) (es : Array (Int × Value)) (t : SetTable) : Prop where
  el : ∀ e ∈ es.toList, Ent P w e
  nd : (es.toList.map txtOf).Nodup
  sz : es.size < scanBound
  ft : t.fits es.size = true
  rs : Ris t.place.toList
  lg : w.params.followText "set-order" = true ∨ t.led = true
/-- the set at a holds just the texts of xs -/
def TxtSet (P : Program) (w : World) (h : Heap) (a : Addr) (xs : List Str) : Prop :=
  ∃ o es ep t, h.get? a = some o ∧ o.ExactSet ∧ o.data = .set es ep t ∧ Lay P w es t ∧ (∀ k, k ∈ xs ↔ k ∈ es.toList.map txtOf) ∧ es.size ≤ xs.length
section
variable {P : Program} {w : World} {A : Around} {E : Value → Shared → Prop} {s : Shared} {a : Addr} {xs : List Str} {h h' : Heap}
theorem TxtSet.keep (R : TxtSet P w h a xs) (k : ∀ o, h.get? a = some o → h'.get? a = some o) : TxtSet P w h' a xs := by
  obtain ⟨o, es, ep, t, e, r⟩ := R
  exact ⟨o, es, ep, t, k o e, r⟩
theorem Ent.is {e : Int × Value} (g : Ent P w e) (k : Str) : (PySem.strKind P w).is k e.2 = true ↔ txtOf e = k := by
  obtain ⟨j, tk, e1, _⟩ := g
  unfold txtOf
  rw [e1]
  show (j == k) = true ↔ j = k
  exact beq_iff_eq
theorem Lay.elems {es : Array (Int × Value)} {t : SetTable} (L : Lay P w es t) : ElemsOf (PySem.strKind P w) es.toList := fun e m => by
  obtain ⟨k, tk, e1, e2⟩ := L.el e m
  exact ⟨⟨k, by rw [e1]; exact strKind_is P w k tk, e2⟩, by rw [e1]; rfl⟩
theorem Lay.mem {es : Array (Int × Value)} {t : SetTable} (L : Lay P w es t) (k : Str) : k ∈ es.toList.map txtOf ↔ ∃ e ∈ es.toList, (PySem.strKind P w).is k e.2 = true :=
  List.mem_map.trans ⟨fun ⟨e, m, q⟩ => ⟨e, m, ((L.el e m).is k).mpr q⟩, fun ⟨e, m, q⟩ => ⟨e, m, ((L.el e m).is k).mp q⟩⟩
/-- the same entries in another row, under another table -/
theorem Lay.perm {es fs : Array (Int × Value)} {t u : SetTable} (L : Lay P w es t) (p : fs.toList.Perm es.toList) (f : u.fits fs.size = true) (r : Ris u.place.toList) (l : u.led = t.led) : Lay P w fs u where
  el e m := L.el e (p.mem_iff.mp m)
  nd := (p.map txtOf).nodup_iff.mpr L.nd
  sz := by rw [← Array.length_toList, p.length_eq, Array.length_toList]; exact L.sz
  ft := f
  rs := r
  lg := L.lg.imp id fun z => l.trans z
theorem put_set {o : Obj} {es fs : Array (Int × Value)} {ep : Nat} {t u : SetTable} (e : h.get? a = some o) (d : o.data = .set es ep t) : (h.update a (Obj.putSet fs u)).get? a = some { o with data := .set fs (ep + 1) u } := by
  have z := Heap.get?_update_self (Obj.putSet fs u) e (by rw [putSet_of fs u d]; rfl)
  rwa [putSet_of fs u d] at z
/-- what follows the laying of a new entry: the table stored, made greater where it is full -/
theorem lay_tail {g : Bool → Sem Unit} (quiet : ∀ (b : Bool) (s' : Shared) (R : Unit → Shared → Prop), R () s' → wpAny (model P w) A (g b) R E s') {o : Obj} {es : Array (Int × Value)} {ep : Nat} {t : SetTable} (e : s.heap.get? a = some o) (hx : o.ExactSet) (d : o.data = .set es ep t)
    {fs : Array (Int × Value)} {u : SetTable} (L : Lay P w fs u) (m : ∀ k, k ∈ xs ↔ k ∈ fs.toList.map txtOf) (n : fs.size ≤ xs.length) {dm : Bool} {R : Option Bool → Shared → Prop} (fin : ∀ h', Heap.SameBut a s.heap h' → TxtSet P w h' a xs → R (some true) { s with heap := h' }) :
    wpAny (model P w) A (do
      storeSet a fs u
      if (!dm && u.tooFull) = true then do
        g (relayAll u fs (SetTable.grown fs.size)).2.2
        storeSet a (relayAll u fs (SetTable.grown fs.size)).1 (relayAll u fs (SetTable.grown fs.size)).2.1
        pure (some true)
      else pure (some true)) R E s := by
  have first := put_set (fs := fs) (u := u) e d
  have same := Heap.SameBut.update s.heap a (Obj.putSet fs u)
  refine wpAny_bind (wpAny_storeSet_of e d ?_ (fits_of_scanBound L.sz))
  split
  · have p := relayAll_perm u fs (SetTable.grown fs.size)
    have f := relayAll_fits u fs (SetTable.grown fs.size)
    have r := relayAll_ris u fs (SetTable.grown fs.size)
    have l := relayAll_led u fs (SetTable.grown fs.size)
    revert p f r l
    generalize relayAll u fs (SetTable.grown fs.size) = Z
    obtain ⟨gs, v, b⟩ := Z
    intro p f r l
    have L2 : Lay P w gs v := L.perm p f r l
    have sz : gs.size = fs.size := by rw [← Array.length_toList, (show gs.toList.Perm fs.toList from p).length_eq, Array.length_toList]
    refine wpAny_bind (quiet _ _ _ (wpAny_bind (wpAny_storeSet_of first rfl (wpAny_pure (fin _ (same.trans (Heap.SameBut.update _ a _)) ?_)) (fits_of_scanBound L2.sz))))
    exact ⟨_, gs, _, v, put_set first rfl, hx, rfl, L2, fun k => (m k).trans (List.Perm.mem_iff (List.Perm.map txtOf p)).symm, by rw [sz]; exact n⟩
  · exact wpAny_pure (fin _ same ⟨_, fs, _, u, first, hx, rfl, L, m, n⟩)
theorem TxtSet.add {k : Str} {tk : Tok} {Q : Bool → Shared → Prop} (R : TxtSet P w s.heap a xs) (room : xs.length + 1 < scanBound) (fin : ∀ h' b, Heap.SameBut a s.heap h' → TxtSet P w h' a (xs ++ [k]) → Q b { s with heap := h' }) :
    wpAny (model P w) A (setAddHashed a (.str k tk) ((PySem.strKind P w).hash k)) Q E s := by
  obtain ⟨o, es, ep, t, e, hx, d, L, m, n⟩ := R
  have here : (PySem.strKind P w).is k (.str k tk) = true := strKind_is P w k tk
  have scan : (Value.str k tk).scannable = true := rfl
  have els := L.elems
  unfold setAddHashed setAddHashedIn
  refine wpAny_holding (wpAny_bind (wpAny_setState_of e d L.ft ?_))
  dsimp only
  rw [byScan_of scan L.sz els]
  simp only [↓reduceIte]
  unfold setAddByScan
  refine wpAny_bind (wpAny_bind (wpAny_rule (wpAny_bind (wpAny_setScan_of here e d L.ft els ?_))))
  cases found : List.findIdx? (fun e => (PySem.strKind P w).is k e.2) es.toList with
  | some j =>
    obtain ⟨hj, pj, _⟩ := List.findIdx?_eq_some_iff_getElem.mp found
    have old : k ∈ xs := (m k).mpr ((L.mem k).mpr ⟨es.toList[j], List.getElem_mem hj, pj⟩)
    dsimp only
    refine wpAny_pure (wpAny_pure (fin s.heap _ (Heap.SameBut.refl a s.heap) ⟨o, es, ep, t, e, hx, d, L, fun i => ?_, by rw [List.length_append]; omega⟩))
    rw [List.mem_append, List.mem_singleton, ← m i]
    exact ⟨fun z => z.elim id fun z => z ▸ old, Or.inl⟩
  | none =>
    have fresh : k ∉ es.toList.map txtOf := fun z => by
      obtain ⟨b, mb, qb⟩ := (L.mem k).mp z
      have c := List.findIdx?_eq_none_iff.mp found b mb
      rw [qb] at c
      cases c
    have quiet : ∀ (b : Bool) (s' : Shared) (R : Unit → Shared → Prop), R () s' → wpAny (model P w) A (match b with | true => rule "set.scan.the-table-gave-way" | false => pure ()) R E s' := fun b s' R q => by
      cases b <;> first | exact wpAny_pure q | exact wpAny_rule q
    have p := layNew_perm t es ((PySem.strKind P w).hash k) (.str k tk)
    have f := layNew_fits t es ((PySem.strKind P w).hash k) (.str k tk)
    have r := layNew_ris t es ((PySem.strKind P w).hash k) (.str k tk) L.rs
    have l := layNew_led t es ((PySem.strKind P w).hash k) (.str k tk)
    dsimp only
    revert p f r l
    generalize layNew t es ((PySem.strKind P w).hash k) (.str k tk) = Z
    obtain ⟨fs, u, dm, gv⟩ := Z
    intro p f r l
    dsimp only at p f r l ⊢
    rw [Array.toList_push] at p
    have pc := p.trans (List.perm_append_singleton _ _)
    have pk : (fs.toList.map txtOf).Perm (k :: es.toList.map txtOf) := pc.map txtOf
    have sz : fs.size = es.size + 1 := by rw [← Array.length_toList, pc.length_eq, List.length_cons, Array.length_toList]
    have L1 : Lay P w fs u := ⟨fun b mb => (List.mem_cons.mp (pc.mem_iff.mp mb)).elim (fun z => z ▸ ⟨k, tk, rfl, rfl⟩) (L.el b), pk.nodup_iff.mpr (List.nodup_cons.mpr ⟨fresh, L.nd⟩), by omega, f, r, L.lg.imp id fun z => l.trans z⟩
    have m1 : ∀ i, i ∈ xs ++ [k] ↔ i ∈ fs.toList.map txtOf := fun i => by
      rw [List.mem_append, List.mem_singleton, m i, pk.mem_iff, List.mem_cons]
      exact Or.comm
    have n1 : fs.size ≤ (xs ++ [k]).length := by rw [List.length_append, List.length_singleton]; omega
    refine wpAny_bind (quiet _ _ _ ?_)
    split
    · rw [hashByValue_scannable 8 scan]
      refine wpAny_bind (wpAny_pure ?_)
      refine lay_tail (fun b s' R q => by cases b <;> first | exact wpAny_pure q | exact wpAny_rule q) e hx d (u := _) ⟨L1.el, L1.nd, L1.sz, ?_, ?_, ?_⟩ m1 n1 fun h' sb r => ?_
      · first | (split <;> first | exact f | exact SetTable.fits_plain_off f) | exact f
      · first | (split <;> exact r) | exact r
      · first | (split <;> exact L1.lg) | exact L1.lg
      · exact wpAny_pure (fin h' _ sb r)
    · refine wpAny_bind (wpAny_pure ?_)
      simp only [↓reduceIte]
      refine lay_tail (fun b s' R q => by cases b <;> first | exact wpAny_pure q | exact wpAny_rule q) e hx d L1 m1 n1 fun h' sb r => ?_
      exact wpAny_pure (fin h' _ sb r)
end
end Kq
namespace Kq
open PySem PySem.Spec PyProof.Rows L2
section
variable {P : Program} {w : World} {A : Around} {E : Value → Shared → Prop} {s : Shared} {h : Heap} {a : Addr}
/-- the walk of set.update over texts -/
theorem upd_texts {I : Addr} {fp wr : List Addr} {G : Array GenState → Array GenState → Prop} {n : Nat} {Pv : Nat → Value → Prop} {St : Nat → Shared → Prop} {R : Result → Shared → Prop} (W : WalksS P w A.in1 I fp wr G n Pv St) (D : Addr) (nD : D ∉ fp) (xs : List Str)
    (hn : n = xs.length) (room : xs.length + 1 < scanBound) (val : ∀ i v, Pv i v → ∃ k t, xs[i]? = some k ∧ v = .str k t) : ∀ (m i : Nat) (s : Shared), m = n - i → i ≤ n → St i s → TxtSet P w s.heap D (xs.take i) →
    (∀ s', Moved (D :: wr) G s s' → TxtSet P w s'.heap D xs → R (.ok (.ret .none)) s') → codeAny (model P w) A (.builtin "set.update.loop" ⟨[.ref D, .ref I], []⟩) R s := by
  have nW : D ∉ wr := fun z => nD (W.sub _ z)
  have wider : ∀ b ∈ wr, b ∈ D :: wr := fun b z => List.mem_cons_of_mem _ z
  intro m
  induction m with
  | zero =>
    intro i s e1 e2 st T fin
    obtain rfl : i = n := by omega
    refine codeAny_builtin PyProof.Rows.F.entry_set_update_loop ?_
    rw [Around.under_plainId PyProof.Rows.F.plain_set_update_loop _]
    refine wpAny_bind (W.done s _ _ st fun s' mv => wpAny_pure (fin s' (mv.mono wider) ?_))
    rw [List.take_of_length_le (Nat.le_of_eq hn.symm)] at T
    exact T.keep fun o z => mv.heap D o nW z
  | succ m ih =>
    intro i s e1 e2 st T fin
    have lt : i < n := by omega
    refine codeAny_builtin PyProof.Rows.F.entry_set_update_loop ?_
    rw [Around.under_plainId PyProof.Rows.F.plain_set_update_loop _]
    refine wpAny_bind (W.item i s _ _ lt st fun v s1 hv st1 mv => ?_)
    obtain ⟨k, t, hk, rfl⟩ := val i v hv
    have T1 := T.keep fun o z => mv.heap D o nW z
    show wpAny _ A.in1 (holding [Value.str k t] (setAdd D (.str k t)) >>= _) _ _ s1
    refine wpAny_bind (wpAny_holding ?_)
    unfold setAdd
    refine wpAny_holding (wpAny_bind ((PySem.strKind P w).pyHash (k := k) (strKind_is _ _ _ _) ?_))
    refine TxtSet.add (s := { s1 with toks := s1.toks + 1 }) T1 (by rw [List.length_take]; omega) fun h2 b sb T2 => ?_
    have T3 : TxtSet P w h2 D (xs.take (i + 1)) := by
      rw [List.take_add_one, hk]
      exact T2
    have others : ∀ b o, b ≠ D → s1.heap.get? b = some o → h2.get? b = some o := fun b o z q => (sb.2 b z).trans q
    refine wpAny_pure ⟨plainId_quiet PyProof.Rows.F.plain_set_update_loop _, ih (i + 1) _ (by omega) lt (W.frame _ s1 _ _ st1 (Nat.le_succ _) fun b z o q => others b o (fun y => nD (y ▸ z)) q) T3 fun s2 mv2 T4 => ?_⟩
    exact fin s2 (Moved.trans W.gtrans ((mv.mono wider).then_heap (Nat.le_succ _) fun b o z q => others b o (fun y => z (y ▸ List.mem_cons_self)) q) mv2) T4
/-- a set that was just made -/
abbrev setO0 (w : World) : Obj := { cls := .type "set", dict := none, data := .set #[] 0 (.fresh 0 0 (!w.params.followText "set-order")) }
theorem TxtSet.fresh (e : h.get? a = some (setO0 w)) : TxtSet P w h a [] :=
  ⟨_, #[], 0, _, e, ⟨rfl, rfl, rfl⟩, rfl, ⟨fun b z => by simp at z, by simp, by decide, rfl, List.Pairwise.nil, by
    show _ ∨ (!w.params.followText "set-order") = true
    cases w.params.followText "set-order" <;> simp⟩, fun k => by simp, Nat.le_refl _⟩
/-- what is walked: a tuple or a list of texts -/
def SeqTxt (s : Shared) (l : Addr) (items : Array Value) : Prop := s.heap.IsTuple l items ∨ s.heap.IsList l items
theorem call_set_txt {l : Addr} {items : Array Value} {xs : List Str} {Q : Value → Shared → Prop} (hh : A.handled = none) (hl : SeqTxt s l items) (hi : StrsAre items.toList xs) (room : xs.length + 1 < scanBound)
    (fin : ∀ (h' : Heap) (tk : Nat), TxtSet P w h' s.heap.objs.size xs → (∀ b o, s.heap.get? b = some o → h'.get? b = some o) → Q (.ref s.heap.objs.size) { s with heap := h', toks := tk }) : wpAny (model P w) A (call (.type "set") [.ref l]) Q E s := by
  have isz : items.size = xs.length := by rw [← Array.length_toList, StrsAre.len_eq hi]
  have hlS : l < s.heap.objs.size := by
    rcases hl with ⟨o, e, _⟩ | ⟨o, e, _⟩ <;> exact Heap.lt_size e
  obtain ⟨mc, mt, hmro⟩ := PySem.F.called_set.mro
  have hmade := PySem.F.called_set.made
  have hsub := PySem.F.called_set.sub
  refine wpAny_call (codeAny_of_tree ?_)
  show wpAny _ _ (callAny (.type "set") _) _ _ _
  refine wpAny_pure ⟨Code.quiet_builtin _ (by decide +kernel), codeAny_builtin PySem.F.entry_type_call ?_⟩
  rw [Around.under_plain (weight_type_call_type "set" [.ref l] []) rfl]
  have f1 := PySem.F.called_set.notType
  have f2 := PySem.F.called_set.canCreate
  have f3 := PySem.F.typeCall_set_1 (.ref l)
  repeat (any_goals (first | assumption | wp_step))
  refine codeAny_mono (code_set_led1 (.ref l) (E := E) (Q₁ := fun v s1 => v = .ref s.heap.objs.size ∧ s1 = { s with heap := s.heap.push (setO0 w) }) ⟨rfl, rfl⟩) fun r s1 hr => ?_
  match r, hr with
  | .error e, hr => exact hr
  | .ok (.ret v), ⟨e1, e2⟩ =>
    subst e1 e2
    have hS : (s.heap.push (setO0 w)).get? s.heap.objs.size = some (setO0 w) := Heap.get?_push_size _ rfl
    have hT : Shared.TypeIs { s with heap := s.heap.push (setO0 w) } (.ref s.heap.objs.size) "set" := ⟨_, hS, rfl⟩
    have f4 := PySem.F.called_set.init.lookup
    have f5 := PySem.F.called_set.init.bind (.ref s.heap.objs.size)
    have zz : (s.heap.push (setO0 w)).objs.size = s.heap.objs.size + 1 := Heap.size_push ..
    have neI : l ≠ (s.heap.push (setO0 w)).objs.size := by rw [zz]; exact Nat.ne_of_lt (Nat.lt_succ_of_lt hlS)
    have nS : s.heap.objs.size ∉ [(s.heap.push (setO0 w)).objs.size, l] := by
      rw [zz]
      simp only [List.mem_cons, List.not_mem_nil, or_false, not_or]
      exact ⟨Nat.ne_of_lt (Nat.lt_succ_self _), Nat.ne_of_gt hlS⟩
    have h3 : A.in1.in1.in1.handled = none := by simp [hh]
    have val : ∀ (i : Nat) (v : Value), items[i]? = some v → ∃ k t, xs[i]? = some k ∧ v = .str k t := fun i v hv => by
      have lt : i < xs.length := by rw [← isz]; exact (Array.getElem?_eq_some_iff.mp hv).1
      obtain ⟨t, e⟩ := SS.strs_at hi i v (by rw [Array.getElem?_toList]; exact hv)
      refine ⟨xs[i], t, List.getElem?_eq_getElem lt, ?_⟩
      rw [e, List.getD_eq_getElem?_getD, List.getElem?_eq_getElem lt]
      rfl
    -- how it ends, whatever is walked
    have ends : ∀ {it : Obj} {Ax : Around} (s' : Shared) {R : PySem.Fin → Shared → Prop}, Moved (s.heap.objs.size :: [(s.heap.push (setO0 w)).objs.size]) (fun x y => y = x) { s with heap := (s.heap.push (setO0 w)).push it } s' → TxtSet P w s'.heap s.heap.objs.size xs →
        (∀ h' tk, s' = { s with heap := h', toks := tk } → TxtSet P w h' s.heap.objs.size xs → (∀ b o, s.heap.get? b = some o → h'.get? b = some o) → R (.done (.ret .none)) s') → R (.done (.ret .none)) s' := fun {it Ax} s' R mv T k => by
      obtain ⟨h', g', d', tk', os'⟩ := s'
      have e1 : g' = s.gens := mv.gens
      have e2 : d' = s.drawn := mv.drawn
      have e3 : os' = s.os := mv.os
      subst e1 e2 e3
      refine k h' tk' rfl T fun b o e => ?_
      have lt := Heap.lt_size e
      refine mv.heap b o ?_ (Heap.get?_push_of_some _ (Heap.get?_push_of_some _ e))
      rw [zz]
      simp only [List.mem_cons, List.not_mem_nil, or_false, not_or]
      exact ⟨Nat.ne_of_lt lt, Nat.ne_of_lt (Nat.lt_succ_of_lt lt)⟩
    repeat (any_goals (first | assumption | wp_step))
    refine codeAny_mono (codeAny_call_builtin (R := wants (fun r s2 => r = .none ∧ ∃ h' tk, s2 = { s with heap := h', toks := tk } ∧ TxtSet P w h' s.heap.objs.size xs ∧ (∀ b o, s.heap.get? b = some o → h'.get? b = some o)) E) PySem.F.called_set.init.plain PySem.F.entry_set_init (check_set_init_1 hT ?_)) fun r2 s2 hr2 => ?_
    · rcases hl with ⟨ol, hol, hcl, nl, hdl⟩ | ⟨ol, hol, hcl, nl, hdl⟩
      · obtain ⟨oc, od, odt, osl⟩ := ol
        simp only at hcl hdl
        subst hcl hdl
        have hol' : (s.heap.push (setO0 w)).get? l = some { cls := .type "tuple", dict := od, data := .seq items nl, slots := osl } := Heap.get?_push_of_some _ hol
        have q1 := PySem.F.sub_tuple_set
        have q2 := PySem.F.sub_tuple_frozenset
        have q3 : (Value.type "tuple" == Value.type "dict") = false := by decide
        have q4 : (s.heap.push (setO0 w)).IsTuple l items := ⟨_, hol', rfl, nl, rfl⟩
        unfold Builtin.«set.__init__» noKeywords Builtin.Frozenset.updateFrom
        generalize hPI : pyIter = PI
        wp_walk
        subst hPI
        refine wpAny_pyIter_tuple q4 (wpAny_bind (wpAny_runValue ?_))
        refine upd_texts ((Walks.tuple h3 _ l neI items).toS) s.heap.objs.size nS xs isz room val (items.size - 0) 0 _ rfl (Nat.zero_le _) ⟨⟨_, Heap.get?_push_size _ rfl, rfl, rfl⟩, (q4.push _)⟩ ?hS0 ?hR
        case hS0 => exact TxtSet.fresh (Heap.get?_push_of_some _ hS)
        case hR =>
          intro s' mv T
          have z := ends (Ax := A) s' (R := fun _ s' => ∃ h' tk, s' = { s with heap := h', toks := tk } ∧ TxtSet P w h' s.heap.objs.size xs ∧ (∀ b o, s.heap.get? b = some o → h'.get? b = some o)) mv T fun h' tk e T k => ⟨h', tk, e, T, k⟩
          exact wpAny_pure (wpAny_pure ⟨rfl, z⟩)
      · obtain ⟨oc, od, odt, osl⟩ := ol
        simp only at hcl hdl
        subst hcl hdl
        have hol' : (s.heap.push (setO0 w)).get? l = some { cls := .type "list", dict := od, data := .seq items nl, slots := osl } := Heap.get?_push_of_some _ hol
        have q1 := PySem.F.sub_list_set
        have q2 := PySem.F.sub_list_frozenset
        have q3 : (Value.type "list" == Value.type "dict") = false := by decide
        have q4 : (s.heap.push (setO0 w)).IsList l items := ⟨_, hol', rfl, nl, rfl⟩
        unfold Builtin.«set.__init__» noKeywords Builtin.Frozenset.updateFrom
        generalize hPI : pyIter = PI
        wp_walk
        subst hPI
        refine wpAny_pyIter_list q4 (wpAny_bind (wpAny_runValue ?_))
        refine upd_texts ((Walks.list h3 _ l neI items).toS) s.heap.objs.size nS xs isz room val (items.size - 0) 0 _ rfl (Nat.zero_le _) ⟨⟨_, Heap.get?_push_size _ rfl, rfl, rfl⟩, (q4.push _)⟩ ?hS0 ?hR
        case hS0 => exact TxtSet.fresh (Heap.get?_push_of_some _ hS)
        case hR =>
          intro s' mv T
          have z := ends (Ax := A) s' (R := fun _ s' => ∃ h' tk, s' = { s with heap := h', toks := tk } ∧ TxtSet P w h' s.heap.objs.size xs ∧ (∀ b o, s.heap.get? b = some o → h'.get? b = some o)) mv T fun h' tk e T k => ⟨h', tk, e, T, k⟩
          exact wpAny_pure (wpAny_pure ⟨rfl, z⟩)
    · match r2, hr2 with
      | .error e, hr2 => exact hr2
      | .ok (.ret r), ⟨e1, h', tk, e2, T, k⟩ =>
        subst e1 e2
        repeat (any_goals (first | assumption | wp_step))
        exact fin _ _ T k
end
end Kq

namespace Kq
open PySem PySem.Spec PyProof.Rows L2
/-! ## the order of texts; rows that rise -/
def LtS (a b : Str) : Prop := a.cps.toList < b.cps.toList
instance (a b : Str) : Decidable (LtS a b) := inferInstanceAs (Decidable (a.cps.toList < b.cps.toList))
theorem LtS.irrefl (a : Str) : ¬ LtS a a := List.lt_irrefl _
theorem LtS.trans {a b c : Str} (h1 : LtS a b) (h2 : LtS b c) : LtS a c := List.lt_trans h1 h2
theorem LtS.asymm {a b : Str} (h : LtS a b) : ¬ LtS b a := fun h2 => LtS.irrefl a (h.trans h2)
theorem LtS.tri {a b : Str} (h1 : ¬ LtS a b) (h2 : ¬ LtS b a) : a = b := str_ext (List.le_antisymm (List.not_lt.mp h2) (List.not_lt.mp h1))
/-- strictly rising -/
abbrev Ris1 (xs : List Str) : Prop := xs.Pairwise LtS
theorem Ris1.nodup {xs : List Str} (h : Ris1 xs) : xs.Nodup := List.Pairwise.imp (R := LtS) (S := fun a b => a ≠ b) (fun {a b} (h : LtS a b) (e : a = b) => LtS.irrefl b (by rw [e] at h; exact h)) h
/-- two rising rows with the same texts are the same row -/
theorem Ris1.ext : ∀ {xs ys : List Str}, Ris1 xs → Ris1 ys → (∀ k, k ∈ xs ↔ k ∈ ys) → xs = ys
  | [], [], _, _, _ => rfl
  | [], y :: ys, _, _, m => absurd ((m y).mpr (List.mem_cons_self ..)) (List.not_mem_nil)
  | x :: xs, [], _, _, m => absurd ((m x).mp (List.mem_cons_self ..)) (List.not_mem_nil)
  | x :: xs, y :: ys, hx, hy, m => by
    obtain ⟨hx1, hx2⟩ := List.pairwise_cons.mp hx
    obtain ⟨hy1, hy2⟩ := List.pairwise_cons.mp hy
    have e : x = y := by
      rcases List.mem_cons.mp ((m x).mp (List.mem_cons_self ..)) with h | h
      · exact h
      rcases List.mem_cons.mp ((m y).mpr (List.mem_cons_self ..)) with h2 | h2
      · exact h2.symm
      exact absurd (hx1 _ h2) (hy1 _ h).asymm
    subst e
    congr 1
    refine Ris1.ext hx2 hy2 fun k => ?_
    have mk := m k
    rw [List.mem_cons, List.mem_cons] at mk
    constructor
    · intro hk
      rcases mk.mp (Or.inr hk) with h | h
      · subst h
        exact absurd (hx1 _ hk) (LtS.irrefl _)
      · exact h
    · intro hk
      rcases mk.mpr (Or.inr hk) with h | h
      · subst h
        exact absurd (hy1 _ hk) (LtS.irrefl _)
      · exact h
theorem risingS_pw : ∀ {p : Str} {l : List Str}, risingS p l = true → (p :: l).Nodup → Ris1 (p :: l)
  | p, [], _, _ => List.pairwise_singleton ..
  | p, x :: r, h, nd => by
    have h' : (!ltCps x.cps.toList p.cps.toList && risingS x r) = true := h
    rw [Bool.and_eq_true, Bool.not_eq_true', ltCps_eq, decide_eq_false_iff_not] at h'
    obtain ⟨nd1, nd2⟩ := List.nodup_cons.mp nd
    have ih := risingS_pw h'.2 nd2
    have px : LtS p x := by
      by_cases z : LtS p x
      · exact z
      · exact absurd (LtS.tri z h'.1) fun e => nd1 (e ▸ List.mem_cons_self ..)
    refine List.pairwise_cons.mpr ⟨fun y hy => ?_, ih⟩
    rcases List.mem_cons.mp hy with e | hy
    · exact e ▸ px
    · exact px.trans ((List.pairwise_cons.mp ih).1 y hy)
theorem sortedS_ris {l : List Str} (h : sortedS l = true) (nd : l.Nodup) : Ris1 l := by
  cases l with
  | nil => exact List.Pairwise.nil
  | cons x r => exact risingS_pw h nd
/-- equal as sets, neither with doubles: as many -/
theorem same_len {xs ys : List Str} (h1 : xs.Nodup) (h2 : ys.Nodup) (m : ∀ k, k ∈ xs ↔ k ∈ ys) : xs.length = ys.length :=
  Nat.le_antisymm (nodup_le h1 fun k hk => (m k).mp hk) (nodup_le h2 fun k hk => (m k).mpr hk)

/-! ## set(..), len(set), sorted(set) as rules -/
def TxtO (P : Program) (w : World) (a : Addr) (xs : List Str) : HO := .ext fun h => TxtSet P w h a xs
theorem txtO_ok {P : Program} {w : World} {H : Hp} {h : Heap} {a : Addr} {xs : List Str} (R : TxtSet P w h a xs) : ObjOk P w H h a (TxtO P w a xs) := by
  have ⟨o, _, _, _, e, _⟩ := R
  exact ⟨R, ⟨o, e⟩, fun h1 h2 p k => TxtSet.keep p k⟩
section
variable {X : Cx} {K : PySem.W.Frag} {P : Program} {w : World}
theorem txtO_get {pins : List (Addr × Obj)} {σ : L2.St} {H : Hp} {s : Shared} {a : Addr} {xs : List Str} (I : Inv X pins σ H s) (e : H a = some (TxtO X.prog X.w a xs)) : TxtSet X.prog X.w s.heap a xs := (I.hok a _ e).1
def rSetT (K : PySem.W.Frag) (P : Program) (w : World) : List V → Hp → VK → Prop := fun vs H Q => ∃ (l : Addr) (xs : List Str), vs = [.ref l] ∧ (SqT K H l (xs.map V.str) ∨ SqL K H l (xs.map V.str)) ∧ xs.length ≤ 4000 ∧ ∀ p, H p = none → Q (.ref p) (upd H p (TxtO P w p xs))
theorem call_setT (hc : X.calm = true) (hK : X.K = K := by rfl) (hP : X.prog = P := by rfl) (hw : X.w = w := by rfl) : CallR X (.type "set") (rSetT K P w) := by
  subst hK hP hw
  intro pins s σ H vs us Q I r h
  obtain ⟨l, xs, rfl, hq, hl, q⟩ := h
  obtain ⟨u, rfl, ru⟩ := vals1 r
  cases ru
  have room : xs.length + 1 < scanBound := by unfold scanBound; omega
  have go : ∀ (its : List Value), Vals (xs.map V.str) its → SeqTxt s l its.toArray → wpAny (model X.prog X.w) X.A (call (.type "set") [.ref l]) (EP X pins σ Q) X.xe s := fun its rv sq =>
    call_set_txt (I.ok.hd hc) sq (by simpa using strsAre_of rv) room fun h' tk T k =>
      ⟨.ref s.heap.objs.size, _, I.laid (t' := tk) k (Nat.le_refl _) (txtO_ok T), rfl, q _ (I.hok.fresh (Nat.le_refl _))⟩
  rcases hq with hq | hq
  · obtain ⟨its, rv, pl, _⟩ := I.tuple hq
    exact go its rv (.inl pl)
  · obtain ⟨its, rv, pl, _⟩ := I.list hq
    exact go its rv (.inr pl.isList)
def rLenSet (P : Program) (w : World) : List V → Hp → VK → Prop := fun vs H Q => ∃ (a : Addr) (xs : List Str), vs = [.ref a] ∧ H a = some (TxtO P w a xs) ∧ ∀ ys : List Str, ys.Nodup → (∀ k, k ∈ ys ↔ k ∈ xs) → Q (.int ys.length) H
theorem call_lenSet (hP : X.prog = P := by rfl) (hw : X.w = w := by rfl) : CallR X (.builtin "len") (rLenSet P w) := by
  subst hP hw
  intro pins s σ H vs us Q I r h
  obtain ⟨a, xs, rfl, ha, q⟩ := h
  obtain ⟨u, rfl, ru⟩ := vals1 r
  cases ru
  obtain ⟨o, es, ep, t, e, hx, d, L, m, _⟩ := txtO_get I ha
  have sz := L.sz
  unfold scanBound at sz
  refine call_len_set e hx d L.ft (by omega) ?_
  have q1 := q (es.toList.map txtOf) L.nd fun k => (m k).symm
  rw [List.length_map, Array.length_toList] at q1
  exact ⟨.int es.size, H, I.tok _, ⟨_, rfl⟩, q1⟩
def rSortedTxt (P : Program) (w : World) : List V → Hp → VK → Prop := fun vs H Q => ∃ (a : Addr) (xs : List Str), vs = [.ref a] ∧ H a = some (TxtO P w a xs) ∧ ∀ (ys : List Str) (p : Addr), Ris1 ys → (∀ k, k ∈ ys ↔ k ∈ xs) → H p = none → Q (.ref p) (upd H p (.lst (ys.map V.str)))
theorem call_sortedTxt (hc : X.calm = true) (hP : X.prog = P := by rfl) (hw : X.w = w := by rfl) : CallR X (.builtin "sorted") (rSortedTxt P w) := by
  subst hP hw
  intro pins s σ H vs us Q I r h
  obtain ⟨a, xs, rfl, ha, q⟩ := h
  obtain ⟨u, rfl, ru⟩ := vals1 r
  cases ru
  obtain ⟨o, es, ep, t, e, hx, d, L, m, _⟩ := txtO_get I ha
  have sz := L.sz
  unfold scanBound at sz
  have szl : (sizeLine : Nat) = 16777216 := sizeLine_eq
  refine Calls.call_function_entry kind_sorted plain_sorted entry_sorted (args_sorted1 _) ?_
  unfold Builtin.«sorted»
  refine wpAny_bind (m := checkCount "sorted" 1 1 _) (wpAny_pure (wpAny_bind (collect_set (A := X.A.in1) (I.ok.hd hc) ⟨o, e, hx.1, d⟩ L.ft L.sz L.rs L.lg fun s1 vs k1 z1 g1 o1 pm => ?_)))
  have vl : vs.length = es.size := by rw [pm.length_eq, List.length_map, Array.length_toList]
  have all : ∀ v ∈ vs, ∃ x t, v = Value.str x t := fun v hv => by
    obtain ⟨b, mb, eb⟩ := List.mem_map.mp (pm.mem_iff.mp hv)
    obtain ⟨x, tk, e1, _⟩ := L.el b mb
    exact ⟨x, tk, eb.symm.trans e1⟩
  have st : StrsAre vs (vs.map strOf) := by
    have z := strsAre_map vs all
    exact z
  have pk : (vs.map strOf).Perm (es.toList.map txtOf) := by
    have z := pm.map strOf
    rw [List.map_map] at z
    have ee : es.toList.map (strOf ∘ fun x => x.2) = es.toList.map txtOf := List.map_congr_left fun b mb => by
      obtain ⟨x, tk, e1, _⟩ := L.el b mb
      show strOf b.2 = txtOf b
      unfold txtOf
      rw [e1]
      rfl
    rwa [ee] at z
  refine wpAny_bind (wpAny_newList ?_ (by omega))
  have at1 : (s1.heap.push (seqObj "list" vs.toArray 0)).get? s1.heap.objs.size = some (seqObj "list" vs.toArray 0) := Heap.get?_push_size _ rfl
  refine wpAny_bind (wpAny_holding (wpAny_call_entry slot_list_sort ⟨_, at1, rfl⟩ entry_list_sort (list_sort_treeKAny strKind_oneLt at1 st.keysOf (fun v1 v2 rest z => keyKind_strs (by rw [← z]; exact st)) (by omega) fun sx hp hs => ⟨_, rfl, ?_⟩) (args_list_sort _)))
  obtain ⟨ys, a1, a2, a3⟩ := sorted_out_str st hp hs
  generalize (arrOf sx).map (·.2) = out at a1 ⊢
  obtain ⟨c, hcc⟩ := sortedHeap_at (vs := vs) (out := out) at1
  have py := a2.trans pk
  have nd := py.nodup_iff.mpr L.nd
  have keep : ∀ b u, s.heap.get? b = some u → (sortedHeap (s1.heap.push (seqObj "list" vs.toArray 0)) s1.heap.objs.size vs out).get? b = some u := fun b u z => by
    have z2 := k1 b u z
    have lt := Heap.lt_size z2
    rw [sortedHeap_old (Nat.ne_of_lt lt) (by rw [size_push']; exact Nat.lt_succ_of_lt lt)]
    exact Heap.get?_push_of_some _ z2
  have len : (ys.map V.str).length ≤ sizeLine := by rw [List.length_map, py.length_eq, List.length_map, Array.length_toList]; omega
  have fr := I.hok.fresh z1
  refine wpAny_pure ⟨_, rfl, .ref s1.heap.objs.size, upd H s1.heap.objs.size (.lst (ys.map V.str)), ?_, rfl, q ys _ (sortedS_ris a3 nd) (fun k => by rw [py.mem_iff]; exact (m k).symm) fr⟩
  exact I.call' (ch := []) o1 (Un.laid keep z1 fr) (I.hok.laid keep z1 ⟨len, out.toList, c, vals_of_strs a1, hcc⟩) (by rw [show _ = s.gens from g1]; exact I.bare) (fun _ z => nomatch z)
end
end Kq

namespace Kq
open PySem PySem.Spec PyProof.Rows L2
/-! ## own special methods: len, in, &, |, -, ^, iteration -/
/-- a method of C that a def promises -/
structure MProm (P : Program) (w : World) (K : PySem.W.Frag) (mg : Str → Option Value) (base : Heap) (k : Nat) (C : Addr) (m : Str) (sp : Sp) : Prop where
  ex : ∃ f fd ps, PySem.W.findIn K (.ref C) m = some (some (.ref f)) ∧ PySem.W.isFn K (.ref f) = true ∧ Binds K fd ps [] ∧ FnOk P w K mg base CX0 k f fd ps sp
section
variable {X : Cx} {K : PySem.W.Frag} {k j : Nat} {C : Addr} {sp : Sp}
/-- len(o) -/
def rLenOwn (C : Addr) (sp : Sp) : List V → Hp → VK → Prop := fun xs H Q => ∃ a dx fs, xs = [.ref a] ∧ H a = some (.ins C dx fs) ∧ sp [.ref a] H (fun v H' => ∃ n : Nat, v = .int (n : Int) ∧ n < 1000000 ∧ Q (.int (n : Int)) H') E0
theorem callLO (F : MProm X.prog X.w X.K X.mg X.base k C "__len__" sp) (hr : Room j X.A) (hj : k + 1 ≤ j) : CallR X (.builtin "len") (rLenOwn C sp) := by
  intro pins s σ H xs us Q I r h
  obtain ⟨a, dx, fs, rfl, ha, hsp⟩ := h
  obtain ⟨u, rfl, rx⟩ := vals1 r
  cases rx
  obtain ⟨f, fd, ps, hs, hf, hb, G⟩ := F.ex
  obtain ⟨mA, O, _⟩ := ins_get I.hok ha
  obtain ⟨od, J, _⟩ := O.look
  obtain ⟨m, hF⟩ := I.fr
  refine PySem.W.len_K hF I.ok.mod.kin J hs hf ?_
  refine wpAny_mono (run_at G hb (hr.mono hj).in1 rfl (vs := [.ref a]) I (.cons rfl .nil) hsp) (fun v s' z => ?_) fun _ _ e => e
  obtain ⟨v', H', I', rv, n, rfl, hn, q⟩ := z
  obtain ⟨t, rfl⟩ := rv
  exact ⟨⟨by omega, by omega⟩, .int n, H', I'.tok _, ⟨_, rfl⟩, q⟩
/-- x in o, x not in o -/
def rInOwn (C : Addr) (sp : Sp) (neg : Bool) : R2 := fun x y H Q => ∃ a dx fs, y = .ref a ∧ H a = some (.ins C dx fs) ∧ sp [.ref a, x] H (fun v H' => ∃ b, v = .bl b ∧ Q (.bl (if neg then !b else b)) H') E0
theorem opInO (F : MProm X.prog X.w X.K X.mg X.base k C "__contains__" sp) (hr : Room j X.A) (hj : k ≤ j) : OpR X (compareOp .In) (rInOwn C sp false) := by
  intro pins s σ H x y v u Q I rx ry h
  obtain ⟨a, dx, fs, rfl, ha, hsp⟩ := h
  cases ry
  obtain ⟨f, fd, ps, hs, hf, hb, G⟩ := F.ex
  obtain ⟨mA, O, _⟩ := ins_get I.hok ha
  obtain ⟨od, J, _⟩ := O.look
  obtain ⟨m, hF⟩ := I.fr
  refine PySem.W.in_K hF I.ok.mod.kin J hs hf ?_
  refine wpAny_mono (run_at G hb (hr.mono hj) rfl (vs := [.ref a, x]) I (.cons rfl (.cons rx .nil)) hsp) (fun v s' z => ?_) fun _ _ e => e
  obtain ⟨v', H', I', rv, b, rfl, q⟩ := z
  cases rv
  exact wpAny_truthy_bool ⟨.bl b, H', I', rfl, q⟩
theorem opNinO (F : MProm X.prog X.w X.K X.mg X.base k C "__contains__" sp) (hr : Room j X.A) (hj : k ≤ j) : OpR X (compareOp .NotIn) (rInOwn C sp true) := by
  intro pins s σ H x y v u Q I rx ry h
  obtain ⟨a, dx, fs, rfl, ha, hsp⟩ := h
  cases ry
  obtain ⟨f, fd, ps, hs, hf, hb, G⟩ := F.ex
  obtain ⟨mA, O, _⟩ := ins_get I.hok ha
  obtain ⟨od, J, _⟩ := O.look
  obtain ⟨m, hF⟩ := I.fr
  refine PySem.W.notIn_K hF I.ok.mod.kin J hs hf ?_
  refine wpAny_mono (run_at G hb (hr.mono hj) rfl (vs := [.ref a, x]) I (.cons rfl (.cons rx .nil)) hsp) (fun v s' z => ?_) fun _ _ e => e
  obtain ⟨v', H', I', rv, b, rfl, q⟩ := z
  cases rv
  exact wpAny_truthy_bool ⟨.bl (!b), H', I', rfl, q⟩
/-- an operator between two instances of one class -/
def rBinOwn (C : Addr) (sp : Sp) : R2 := fun x y H Q => ∃ a dx fs b dy gs, x = .ref a ∧ y = .ref b ∧ H a = some (.ins C dx fs) ∧ H b = some (.ins C dy gs) ∧ sp [.ref a, .ref b] H Q E0
theorem opBO {op : Operator} {nm : Str} (F : MProm X.prog X.w X.K X.mg X.base k C nm sp) (hr : Room j X.A) (hj : k ≤ j) (hself : PySem.W.selfFirst X.K C = true) (hnm : PySem.dunder op.info.2 = nm := by rfl) : OpR X (binaryOp op) (rBinOwn C sp) := by
  subst hnm
  intro pins s σ H x y v u Q I rx ry h
  obtain ⟨a, dx, fs, b, dy, gs, rfl, rfl, ha, hb', hsp⟩ := h
  cases rx
  cases ry
  obtain ⟨f, fd, ps, hs, hf, hb, G⟩ := F.ex
  obtain ⟨mA, O, _⟩ := ins_get I.hok ha
  obtain ⟨od, J, _⟩ := O.look
  obtain ⟨mB, O2, _⟩ := ins_get I.hok hb'
  obtain ⟨od2, J2, _⟩ := O2.look
  obtain ⟨m, hF⟩ := I.fr
  refine PySem.W.binop_K hF I.ok.mod.kin J J2.type hself hs hf ?_
  refine wpAny_mono (run_at G hb (hr.mono hj) rfl (vs := [.ref a, .ref b]) I (.cons rfl (.cons rfl .nil)) hsp) (fun v s' z => ?_) fun _ _ e => e
  obtain ⟨v', H', I', rv, q⟩ := z
  have back : ∀ {u : Value}, RelV v' u → u ≠ .notImplemented := fun {u} r e => by
    subst e
    cases v' with
    | non => cases r
    | bl b => cases r
    | int i => obtain ⟨_, e⟩ := r; cases e
    | str b => obtain ⟨_, e⟩ := r; cases e
    | byt b => obtain ⟨_, e⟩ := r; cases e
    | flt b => obtain ⟨_, e⟩ := r; cases e
    | ref b => cases r
    | ty b => cases r
  have nn := back rv
  cases v <;> first | exact absurd rfl nn | exact ⟨v', H', I', rv, q⟩
end
/-! ### iteration by an own __iter__ that gives a tuple's iterator -/
/-- at it the iterator of the tuple at t, not yet walked -/
def ItT (t it : Addr) : HO := .ext fun h => h.IsTupleIter it t 0
theorem itT_ok {P : Program} {w : World} {H : Hp} {h : Heap} {t it : Addr} (e : h.IsTupleIter it t 0) : ObjOk P w H h it (ItT t it) := by
  obtain ⟨o, e1, e2⟩ := id e
  exact ⟨e, ⟨o, e1⟩, fun h1 h2 q k => by
    obtain ⟨o, e1, e2⟩ := q
    exact ⟨o, k _ e1, e2⟩⟩
section
variable {X : Cx}
def rIterT (K : PySem.W.Frag) (n : Nat) : List V → Hp → VK → Prop := fun xs H Q => ∃ (t : Addr) (zs : List V), xs = [.ref t] ∧ SqT K H t zs ∧ ∀ it, H it = none → n ≤ it → Q (.ref it) (upd H it (ItT t it))
theorem call_iterT : CallR X (.builtin "iter") (rIterT X.K X.s_0.heap.objs.size) := by
  intro pins s σ H xs us Q I r h
  obtain ⟨t, zs, rfl, hq, q⟩ := h
  obtain ⟨u, rfl, ru⟩ := vals1 r
  cases ru
  obtain ⟨its, rv, pl, hz⟩ := I.tuple hq
  refine Calls.call_function_entry (by decide +kernel) (by decide +kernel) PySem.W.kdk_entry_iter (PySem.W.kdk_args_iter _) ?_
  unfold Builtin.«iter»
  refine wpAny_bind (m := someArgs "iter" 1 2 _) (wpAny_of_eq (a := [Value.ref t]) (by first | rfl | kernel_rfl!) ?_)
  show wpAny _ _ (pyIter (.ref t) >>= _) _ _ _
  refine wpAny_bind (wpAny_pyIter_tuple (show s.heap.IsTuple t its.toArray from pl) (wpAny_pure ⟨_, rfl, ?_⟩))
  exact ⟨.ref s.heap.objs.size, _, I.laid (t' := s.toks) (fun b u e => Heap.get?_push_of_some _ e) (Nat.le_refl _) (itT_ok ⟨_, Heap.get?_push_size _ rfl, rfl, rfl⟩), rfl, q _ (I.hok.fresh (Nat.le_refl _)) I.sz⟩
end
/-- a def whose promise knows how far the heap went at its call -/
structure FnS (P : Program) (w : World) (K : PySem.W.Frag) (mg : Str → Option Value) (base : Heap) (k : Nat) (f : Addr) (fd : FuncData) (ps : List Str) (sp : Nat → Sp) : Prop where
  len : ∀ n vs H Q E, sp n vs H Q E → vs.length = ps.length
  run : ∀ (A : Around) (outer : List Env) (s : Shared) (H : Hp) (args : Args) (us : List Value) (vs : List V) (Q : VK) (E : XK), Room k A → Env0 P w K mg base A outer s H → BindsTo s fd args (ps.zip us) → Vals vs us → sp s.heap.objs.size vs H Q E →
    codeAny (model P w) A (.call (.ref f) args) (CR CX0 outer P w H s Q E) s
theorem Fun.okS {P : Program} {w : World} {K : PySem.W.Frag} {mg : Str → Option Value} {base : Heap} {k : Nat} {f : Addr} {fd : FuncData} {N ps : List Str} {sp : Nat → Sp} {x qual : Str} {st : Stmt} (F : Fun K x qual st f fd) (S : FnScope N ps (defScope st)) (len : ∀ n vs H Q E, sp n vs H Q E → vs.length = ps.length)
    (hbody : ∀ (cdv : Value) (A : Around) (outer : List Env) (s : Shared) (H : Hp) (vs : List V) (Q : VK) (E : XK), Room k (A.deeper (envOfC qual (defScope st) s.heap.objs.size f cdv)) → sp s.heap.objs.size vs H Q E →
      ∃ t, PSs (cxOf CX0 P w K mg base N qual (defScope st) f cdv A outer s H E).nox (defBody st) t ∧ t { nx := fun _ H' => Q .non H', rt := Q } (start N vs) H) : FnS P w K mg base (k + 1) f fd ps sp := by
  obtain ⟨oc, od, kV, doc, pm, an, cdv, ct, osl, rfl, lk, hcd⟩ := F.ex
  refine ⟨len, ?_⟩
  intro A outer s H args us vs Q E hr e0 hb r hsp
  have hl := len _ _ _ _ _ hsp
  have KX : K.In s.heap := e0.mod.kin.keeps fun b o e => (e0.bs b o e).1
  have lim : s.heap.NoLimit := e0.mod.nolimit.keeps fun b o e => (e0.bs b o e).1
  refine codeAny_call_function hr.depth (KX _ _ lk) rfl S.co S.gen rfl (PySem.W.codeRec_of KX hcd) (hb _ _ _ _ ?_)
  refine wpAny_newFunctionEnv_cells S.kind ?_ fun env he s1 x => ?_
  · rintro ⟨n, v⟩ hy
    rcases S.par n (List.of_mem_zip hy).1 with q | q
    · exact Or.inl q
    · exact Or.inr ⟨q, PySem.W.cellsFrom_some _ _ _ (.inl q)⟩
  subst he
  refine ⟨lim.keeps x.toInCall.keep, codeAny_func ?_⟩
  obtain ⟨t, ht, hq⟩ := hbody cdv A outer s H vs Q E (hr.deeper _) hsp
  have I := inv_start (CX := CX0) (E := E) S hr.hd e0 hl r x
  refine wpAny_mono (ht.nox.run [] s1 (start N vs) H _ I hq) ?_ (fun e s' hs => hs)
  intro fl s' hs
  match fl, hs with
  | .ret u, ⟨v, σ', H', J, rv, q⟩ => exact ⟨v, H', J.os, J.bare, J.base, J.hok, rv, q⟩
  | .next, ⟨σ', H', J, q⟩ => exact ⟨V.non, H', J.os, J.bare, J.base, J.hok, rfl, q⟩
  | .brk, ⟨_, _, _, q⟩ => exact q.elim
  | .cont, ⟨_, _, _, q⟩ => exact q.elim
/-- __iter__: it gives the iterator of the tuple in the field fl -/
def spIter (K : PySem.W.Frag) (C : Addr) (fl : Str) (n : Nat) : Sp := fun vs H Q _ => ∃ a dx fs t xs, vs = [.ref a] ∧ H a = some (.ins C dx fs) ∧ fs.lookup fl = some (.ref t) ∧ SqT K H t xs ∧ ∀ it, H it = none → n ≤ it → Q (.ref it) (upd H it (ItT t it))
structure ItProm (P : Program) (w : World) (K : PySem.W.Frag) (mg : Str → Option Value) (base : Heap) (k : Nat) (C : Addr) (fl : Str) : Prop where
  ex : ∃ f fd ps, PySem.W.findIn K (.ref C) "__iter__" = some (some (.ref f)) ∧ PySem.W.isFn K (.ref f) = true ∧ Binds K fd ps [] ∧ FnS P w K mg base k f fd ps (spIter K C fl)
section
variable {X : Cx} {K : PySem.W.Frag} {k j : Nat} {C : Addr} {fl : Str}
/-- what pyIter of such an instance comes to, in any around -/
theorem iter_own {A : Around} {pins : List (Addr × Obj)} {σ : L2.St} {H : Hp} {s : Shared} {a dx t : Addr} {fs : List (Str × V)} {xs : List V} {Q : Value → Shared → Prop} {E : Value → Shared → Prop} (F : ItProm X.prog X.w X.K X.mg X.base k C fl) (hr : Room k A) (hfr : A.frames = X.A.frames)
    (I : Inv X pins σ H s) (ha : H a = some (.ins C dx fs)) (hl : fs.lookup fl = some (.ref t)) (hx : SqT X.K H t xs) (q : ∀ it s', H it = none → s.heap.objs.size ≤ it → Inv X pins σ (upd H it (ItT t it)) s' → Q (.ref it) s') : wpAny (model X.prog X.w) A (pyIter (.ref a)) Q E s := by
  obtain ⟨f, fd, ps, hs, hf, hb, G⟩ := F.ex
  obtain ⟨mA, O, _⟩ := ins_get I.hok ha
  obtain ⟨od, J, _⟩ := O.look
  obtain ⟨m, hF⟩ := I.fr
  refine PySem.W.owit_iter hF I.ok.mod.kin J hs hf ?_
  have e0 : Env0 X.prog X.w X.K X.mg X.base A X.stack s H := by
    have e := I.env0
    exact ⟨by rw [hfr]; exact e.frames, e.mod, e.bs, e.bsz, e.funs, e.frf, e.hok, e.bare⟩
  have hsp : spIter X.K C fl s.heap.objs.size [.ref a] H (fun v H' => ∃ it, v = .ref it ∧ H it = none ∧ s.heap.objs.size ≤ it ∧ H' = upd H it (ItT t it)) E0 := ⟨a, dx, fs, t, xs, rfl, ha, hl, hx, fun it n1 n2 => ⟨it, rfl, n1, n2, rfl⟩⟩
  have hlen := G.len _ _ _ _ _ hsp
  have hb1 := hb s [.ref a] I.kIn (by simpa using hlen)
  rw [List.append_nil] at hb1
  refine wpAny_call (codeAny_mono (G.run A X.stack s H ⟨[.ref a], []⟩ [.ref a] [.ref a] _ E0 hr e0 hb1 (.cons rfl .nil) hsp) ?_)
  intro r s' hq
  match r, hq with
  | .error e, hq => exact hq.elim
  | .ok (.ret u), hq =>
    obtain ⟨v, H', I', rv, it, rfl, n1, n2, rfl⟩ := I.after hq
    cases rv
    have hit := (I'.hok it _ upd_same).1
    show PySem.W.OwitIt _ _ _ _ _ _
    unfold PySem.W.OwitIt
    exact wpAny_specialOf hit.typeIs PySem.F.slot_tuple_iterator_next.lookup (q it s' n1 n2 I')
def iOwn (K : PySem.W.Frag) (C : Addr) (fl : Str) (te : TE) : TI := fun σ H R => te σ H fun x H1 => ∃ a dx fs t xs, x = .ref a ∧ H1 a = some (.ins C dx fs) ∧ fs.lookup fl = some (.ref t) ∧ SqT K H1 t xs ∧ R (Itt K t) H1
theorem pi_own {tg e : Expr} {te : TE} (F : ItProm X.prog X.w X.K X.mg X.base k C fl) (hr : Room j X.A) (hj : k ≤ j) (he : PE X e te) (hK : X.K = K := by rfl) : PI X tg e (iOwn K C fl te) := by
  subst hK
  refine ⟨fun pins s σ H R I h => ?_⟩
  refine thn (he.run pins s σ H _ I h) fun v s1 ⟨x, H1, I1, r1, a, dx, fs, t, xs, e1, ha, hl, hx, q⟩ => ?_
  subst e1
  cases r1
  refine iter_own F (hr.mono hj) rfl I1 ha hl hx fun it s2 n1 n2 I2 => ?_
  have hit := (I2.hok it _ upd_same).1
  have drop : ItX.dropH (upd H1 it (ItT t it)) it = H1 := ItX.dropH_upd n1
  have I3 : Inv X pins σ H1 s2 := by
    have := ItX.inv_drop I2 (show upd H1 it (ItT t it) it = some (.ext _) from upd_same)
    rw [drop] at this
    exact this
  refine ⟨it, [it], _, _, H1, rfl, I3, turn_tuple t it, hit, fun b hb => ?_, q⟩
  obtain rfl : b = it := by simpa using hb
  have := ItX.inv_fp I2 upd_same (Nat.le_trans I1.sz n2)
  rw [drop] at this
  exact this
end
end Kq

namespace Kq
open PySem PySem.Spec PyProof.Rows L2
/-! ## list(o) of an own iterable with an own length -/
/-- __len__: the length of the tuple in the field fl -/
def spLenF (K : PySem.W.Frag) (C : Addr) (fl : Str) : Sp := fun vs H Q _ => ∃ a dx fs t xs, vs = [.ref a] ∧ H a = some (.ins C dx fs) ∧ fs.lookup fl = some (.ref t) ∧ SqT K H t xs ∧ Q (.int (xs.length : Int)) H
theorem sqT_same {K : PySem.W.Frag} {H H' : Hp} {t : Addr} {xs : List V} (h : SqT K H t xs) (s : Same H H') : SqT K H' t xs := by
  rcases h with h | h
  · refine .inl ?_
    rcases h with h | ⟨o, h⟩
    · exact .inl (s _ _ h)
    · exact .inr ⟨o, s _ _ h⟩
  · exact .inr h
theorem sqL_same {K : PySem.W.Frag} {H H' : Hp} {t : Addr} {xs : List V} (h : SqL K H t xs) (s : Same H H') : SqL K H' t xs := by
  rcases h with h | h
  · refine .inl ?_
    rcases h with h | ⟨o, h⟩
    · exact .inl (s _ _ h)
    · exact .inr ⟨o, s _ _ h⟩
  · exact .inr h
section
variable {X : Cx} {K : PySem.W.Frag} {k j : Nat} {C : Addr} {fl : Str}
/-- a tracked list and an untracked young iterator have changed, all else stands -/
theorem Inv.walked {pins : List (Addr × Obj)} {σ : L2.St} {H : Hp} {s s' : Shared} {q it : Addr} {zs ys : List V} {its : Array Value} {c : Nat} (I : Inv X pins σ H s) (hq : H q = some (.lst ys)) (fp : FpOk X pins H it)
    (hk : ∀ b o, b ≠ q → b ≠ it → s.heap.get? b = some o → s'.heap.get? b = some o) (hg : s'.gens = s.gens) (ho : s'.os = s.os) (hne : q ≠ it) (hobj : s'.heap.get? q = some { cls := .type "list", data := .seq its c }) (hz : zs.length ≤ sizeLine) (rv : Vals zs its.toList) :
    Inv X pins σ (upd H q (.lst zs)) s' := by
  have nq : ∀ {b : Addr}, H b = none → b ≠ q := fun {b} e z => by rw [z, hq] at e; cases e
  have mu : Mut (H q) := by rw [hq]; trivial
  refine I.call' (ch := [it]) ho ⟨fun b o e n _ hx => hk b o (nq n) (fun z => hx (by simp [z])) e, fun b o e n _ hx => ⟨o.slots, hk b o (nq n) (fun z => hx (by simp [z])) e⟩, fun b o e n hx => by rw [upd_ne (nq n)]; exact n, fun b o e hx => ?_, fun b xs e => ?_, fun b o u e => ?_, fun b ps e => ?_⟩ ?_ (by rw [hg]; exact I.bare) (fun b hb => ?_)
  · by_cases z : b = q
    · exact ⟨_, by rw [z]; exact hobj⟩
    · exact ⟨o, hk b o z (fun z => hx (by simp [z])) e⟩
  · rw [upd_ne (by rintro rfl; rw [hq] at e; cases e)]; exact e
  · rw [upd_ne (by rintro rfl; rw [hq] at e; cases e)]; exact e
  · exact ⟨#[], by rw [upd_ne (by rintro rfl; rw [hq] at e; cases e), e]; simp⟩
  · -- what is tracked stands
    have h1 : HOk X.prog X.w (upd H q (.lst zs)) (s'.heap) := by
      intro b u e
      by_cases z : b = q
      · subst z
        rw [upd_same] at e
        cases e
        exact ⟨hz, its.toList, c, rv, by simpa using hobj⟩
      · rw [upd_ne z] at e
        have tr : ∀ {c : Addr} {u : HO}, H c = some u → (∀ ys, u ≠ .lst ys) → c ≠ q ∧ c ≠ it := fun {c u} e n => ⟨fun y => by
          subst y
          rw [hq] at e
          exact n _ (Option.some.inj e).symm, fun y => by
          subst y
          rw [fp.1] at e
          cases e⟩
        refine (I.hok b u e).stay (fun c v hc ev => ?_) (fun c y => by rw [upd_ne (tr y fun _ => nofun).1]; exact y) fun c xs y => by rw [upd_ne (tr y fun _ => nofun).1]; exact y
        rcases hc with rfl | hc
        · exact hk _ _ z (fun y => by rw [y, fp.1] at e; cases e) ev
        · obtain ⟨n1, n2⟩ := tr hc fun _ => nofun
          exact hk _ _ n1 n2 ev
    exact h1
  · obtain rfl : b = it := by simpa using hb
    exact ⟨fp.2.2.2.1, fp.2.1, fp.2.2.2.2.1, fp.2.2.2.2.2⟩
/-- list(o) -/
def rListO (K : PySem.W.Frag) (C : Addr) (fl : Str) : List V → Hp → VK → Prop := fun vs H Q => ∃ a dx fs t zs, vs = [.ref a] ∧ H a = some (.ins C dx fs) ∧ fs.lookup fl = some (.ref t) ∧ SqT K H t zs ∧ zs.length ≤ 100000 ∧ ∀ q, H q = none → Q (.ref q) (upd H q (.lst zs))
theorem call_listO (F : ItProm X.prog X.w X.K X.mg X.base k C fl) (L : MProm X.prog X.w X.K X.mg X.base k C "__len__" (spLenF X.K C fl)) (hr : Room j X.A) (hj : k + 3 ≤ j) (hc : X.calm = true) (hK : X.K = K := by rfl) : CallR X (.type "list") (rListO K C fl) := by
  subst hK
  intro pins s σ H xs us Q I rv h
  obtain ⟨a, dx, fs, t, zs, rfl, ha, hl, hx, hz, hq⟩ := h
  obtain ⟨u, rfl, ru⟩ := rv.one
  cases ru
  have hh := I.ok.hd hc
  refine callType_codes (Q₁ := fun v s1 => v = .ref s.heap.objs.size ∧ s1 = { s with heap := s.heap.push { cls := .type "list", data := .seq #[] } }) PySem.F.called_list (PySem.F.typeCall_list_1 _) PySem.F.entry_list_init (code_list_new _ ⟨rfl, rfl⟩) ?_
  rintro v s1 ⟨rfl, rfl⟩
  have new : (s.heap.push { cls := .type "list", data := .seq #[] }).get? s.heap.objs.size = some { cls := .type "list", data := .seq #[] } := Heap.get?_push_size _ rfl
  refine ⟨⟨_, new, rfl⟩, PySem.F.args_list_init_2 _ _, ?_⟩
  have fr : H s.heap.objs.size = none := I.hok.fresh (Nat.le_refl _)
  have I1 : Inv X pins σ (upd H s.heap.objs.size (.lst [])) { s with heap := s.heap.push { cls := .type "list", data := .seq #[] } } := I.lnew (its := []) (t' := s.toks) .nil (Nat.zero_le _)
  show wpAny _ _ (Builtin.List.listItems (.ref s.heap.objs.size) >>= fun old => Builtin.List.listUpdate (.ref s.heap.objs.size) (fun _ => #[]) >>= fun _ => letGo old.toList.reverse >>= fun _ => Builtin.List.listExtendWith (.ref s.heap.objs.size) (.ref a) .none) _ _ _
  refine wpAny_bind ?_
  unfold Builtin.List.listItems
  refine wpAny_bind (wpAny_seqItems new rfl (wpAny_pure ?_))
  show wpAny _ _ (updateSeq s.heap.objs.size (fun _ => #[]) >>= fun _ => letGo (#[] : Array Value).toList.reverse >>= fun _ => Builtin.List.listExtendWith (.ref s.heap.objs.size) (.ref a) .none) _ _ _
  refine wpAny_bind (wpAny_updateSeq new rfl ?_)
  have I2 := I1.lset (f := fun _ => #[]) (its := []) (its' := []) (ys := []) (t' := s.toks) upd_same new rfl .nil (Nat.zero_le _)
  rw [upd_upd] at I2
  refine wpAny_bind (wpAny_letGo ?_)
  generalize s.heap.objs.size = q at I2 fr ⊢
  have nqa : q ≠ a := fun z => by rw [z, ha] at fr; cases fr
  have ha2 : upd H q (.lst []) a = some (.ins C dx fs) := by rw [upd_ne nqa.symm]; exact ha
  have hx2 : SqT X.K (upd H q (.lst [])) t zs := sqT_same hx (Same.upd fr)
  unfold Builtin.List.listExtendWith
  obtain ⟨mA, O, _⟩ := ins_get I2.hok ha2
  obtain ⟨od, J, _⟩ := O.look
  refine wpAny_bind (J.type.here ?_)
  have b1 : Builtin.List.listSameRef (.ref q) (.ref a) = false := by simp [Builtin.List.listSameRef, nqa]
  have b2 : (Value.ref C == Value.type "list") = false := rfl
  have b3 : (Value.ref C == Value.type "tuple") = false := rfl
  simp only [b1, b2, b3, Bool.or_false, Bool.false_eq_true, if_false]
  refine wpAny_bind (iter_own F ((hr.mono (show k + 2 ≤ j by omega)).in1.in1) rfl I2 ha2 hl hx2 fun it s3 n1 n2 I3 => ?_)
  have nqi : q ≠ it := fun z => by rw [← z, upd_same] at n1; cases n1
  have nia : a ≠ it := fun z => by rw [← z, ha2] at n1; cases n1
  have ha3 : upd (upd H q (.lst [])) it (ItT t it) a = some (.ins C dx fs) := by rw [upd_ne nia]; exact ha2
  have hx3 := sqT_same hx2 (Same.upd (o := ItT t it) n1)
  -- the length is asked
  refine wpAny_bind (wpAny_holding ?_)
  obtain ⟨f, fd, ps, hs, hf, hb, G⟩ := id L.ex
  obtain ⟨mA, O, _⟩ := ins_get I3.hok ha3
  obtain ⟨od, J, _⟩ := O.look
  obtain ⟨m, hF⟩ := I3.fr
  unfold Builtin.List.listLengthHint
  refine wpAny_bind (wpAny_bind (J.type.here ((PySem.W.looks_findIn I3.kIn hs).here ?_)))
  refine PySem.W.KFB.if_not rfl ?_
  refine wp_if_pos rfl (wpAny_bind (wpAny_rule (wpAny_bind (wpAny_attempt ?_))))
  refine PySem.W.len_K hF I3.ok.mod.kin J hs hf ?_
  have asks : spLenF X.K C fl [.ref a] (upd (upd H q (.lst [])) it (ItT t it)) (fun v H' => v = .int (zs.length : Int) ∧ H' = upd (upd H q (.lst [])) it (ItT t it)) E0 := ⟨a, dx, fs, t, zs, rfl, ha3, hl, hx3, rfl, rfl⟩
  refine wpAny_mono (run_at G hb ((hr.mono hj).in1.in1.in1) rfl (vs := [.ref a]) I3 (.cons rfl .nil) asks) (fun v s5 z => ?_) fun _ _ e => e
  obtain ⟨v', H', I5, rv, rfl, rfl⟩ := z
  obtain ⟨tk, rfl⟩ := rv
  refine ⟨⟨by omega, by omega⟩, ?_⟩
  have I6 := I5.tok (s5.toks + 1)
  have hit := (I6.hok it _ upd_same).1
  have drop : ItX.dropH (upd (upd H q (.lst [])) it (ItT t it)) it = upd H q (.lst []) := ItX.dropH_upd n1
  have fp : FpOk X pins (upd H q (.lst [])) it := by
    have := ItX.inv_fp I6 upd_same (Nat.le_trans I2.sz n2)
    rwa [drop] at this
  have I7 : Inv X pins σ (upd H q (.lst [])) { s5 with toks := s5.toks + 1 } := by
    have := ItX.inv_drop I6 (show upd (upd H q (.lst [])) it (ItT t it) it = some (.ext _) from upd_same)
    rwa [drop] at this
  generalize ({ s5 with toks := s5.toks + 1 } : Shared) = s6 at I6 hit I7 ⊢
  clear I6 I5
  have szl : (sizeLine : Nat) = 16777216 := sizeLine_eq
  show wpAny _ _ (asInt? (.int (zs.length : Int) s5.toks) >>= _) _ _ s6
  refine wpAny_bind (m := asInt? _) (wpAny_pure ?_)
  refine wp_if_neg (by unfold Builtin.List.listTooLong; simp; omega) (wpAny_pure ?_)
  obtain ⟨its, rt, pl, _⟩ := I7.tuple hx2
  obtain ⟨z7, its7, k7, r7, hl7, e7⟩ := I7.lstM upd_same
  cases r7
  have nti : t ≠ it := fun z => by
    obtain ⟨o, e1, e2, _⟩ := pl
    obtain ⟨o2, e3, e4, _⟩ := hit
    rw [z, e3] at e1
    cases e1
    exact absurd (Value.type.inj (e4.symm.trans e2)) (by decide)
  have nqt : q ≠ t := fun z => by
    obtain ⟨o, e1, e2, _⟩ := pl
    rw [← z, e7] at e1
    cases e1
    exact absurd (Value.type.inj e2) (by decide)
  have hlen := rt.length
  -- the walk
  have loop : ∀ (s8 : Shared) (c : Nat), Inv X pins σ (upd H q (.lst [])) s8 → s8.heap.IsTuple t its.toArray → s8.heap.IsTupleIter it t 0 → s8.heap.get? q = some { cls := .type "list", data := .seq #[] c } →
      codeAny (model X.prog X.w) X.A.in1 (.builtin "list.extend.loop" ⟨[.ref q, .ref it, .none], []⟩) (wants (fun r s' => r = .none ∧ EP X pins σ Q (.ref q) s') X.xe) s8 := by
    intro s8 c I8 p8 i8 e8
    refine codeAny_extend_loopS ((Walks.tuple (prog := X.prog) (w := X.w) (A := X.A.in1.in1) hh it t nti its.toArray).toS) (by simp; omega) q (by simp [nqi, nqt]) .none its.toArray.size 0 s8 #[] c rfl (Nat.zero_le _) ⟨i8, p8⟩ e8 (ItemsOf.nil _) ?_
    intro s9 acc c9 mv e9 items
    have eacc : acc.toList = its := by
      have := items_out (out := its) (by simpa using items) (fun j v h => by simpa using h)
      exact this
    refine ⟨rfl, .ref q, upd (upd H q (.lst [])) q (.lst zs), ?_, rfl, ?_⟩
    · exact Inv.walked I8 upd_same fp (fun b o h1 h2 e => mv.heap b o (by simp [h1, h2]) e) mv.gens mv.os nqi e9 (by omega) (by rw [eacc]; exact rt)
    · rw [upd_upd]
      exact hq q fr
  refine wpAny_ite_split (fun _ => ?_) fun _ => wpAny_pure ⟨plainId_quiet PySem.F.plain_extend_loop _, loop _ _ I7 pl hit e7⟩
  refine wpAny_bind (wpAny_rule (wpAny_bind ?_))
  show wpAny _ _ (updateSeq q (·.push .none) >>= fun _ => updateSeq q (·.pop)) _ _ _
  refine wpAny_bind (wpAny_updateSeq e7 rfl ?_)
  have I8 := I7.lset (f := (·.push Value.none)) (its' := [Value.none]) (ys := [.non]) (t' := s6.toks) upd_same e7 (by simp) (.cons rfl .nil) (by rw [List.length_singleton, sizeLine_eq]; decide)
  obtain ⟨z8, its8, k8, r8, hl8, e8⟩ := I8.lstM upd_same
  obtain ⟨u8, rfl, ru8⟩ := r8.one
  refine wpAny_updateSeq e8 rfl ?_ (by show 1 ≤ sizeLine; rw [sizeLine_eq]; decide) (by show 0 ≤ sizeLine + 1; exact Nat.zero_le _)
  have I9 := I8.lset (f := (·.pop)) (its := [u8]) (its' := []) (ys := []) (t' := s6.toks) upd_same e8 (by rfl) .nil (Nat.zero_le _)
  rw [upd_upd, upd_upd] at I9
  obtain ⟨z9, its9, k9, r9, hl9, e9⟩ := I9.lstM upd_same
  cases r9
  have others : ∀ {b : Addr} {o : Obj}, b ≠ q → s6.heap.get? b = some o → ((s6.heap.update q (Obj.mapSeq (·.push Value.none))).update q (Obj.mapSeq (·.pop))).get? b = some o := fun {b o} n e => (Heap.get?_update_other _ _ (Ne.symm n)).trans ((Heap.get?_update_other _ _ (Ne.symm n)).trans e)
  refine wpAny_pure ⟨plainId_quiet PySem.F.plain_extend_loop _, loop _ _ I9 ?_ ?_ e9⟩
  · obtain ⟨o, e1, e2⟩ := pl
    exact ⟨o, others nqt.symm e1, e2⟩
  · obtain ⟨o, e1, e2⟩ := hit
    exact ⟨o, others nqi.symm e1, e2⟩
end
end Kq

namespace Kq
open PySem PySem.Spec PySem.Calls PyProof.Rows L2 StX ClX
/-! ## star calls; classes and classmethods as promises -/
structure MkR (P : Program) (w : World) (K : PySem.W.Frag) (mg : Str → Option Value) (base : Heap) (k : Nat) (C : Addr) (sp : Sp) : Prop where
  ex : ∃ f, Mk K C f ∧ FnR P w K mg base CX0 k f sp
structure CmProm (P : Program) (w : World) (K : PySem.W.Frag) (mg : Str → Option Value) (base : Heap) (k : Nat) (C : Addr) (m : Str) (sp : Sp) : Prop where
  ex : ∃ mc p g, CRead K C mc ∧ CMet K C mc m p g ∧ FnR P w K mg base CX0 k g sp
section
variable {P : Program} {w : World} {K : PySem.W.Frag} {mg : Str → Option Value} {base : Heap} {k : Nat} {f : Addr} {fd : FuncData} {N ps : List Str} {sp : Sp} {x qual : Str} {st : Stmt}
theorem FnOk.toR (F : FnOk P w K mg base CX0 k f fd ps sp) (hb : Binds K fd ps []) : FnR P w K mg base CX0 k f sp := by
  intro A outer s H us vs Q E hr e0 r hsp
  have hl : us.length = ps.length := by rw [← r.length]; exact F.len _ _ _ _ hsp
  have KX : K.In s.heap := e0.mod.kin.keeps fun b o e => (e0.bs b o e).1
  have hb1 := hb s us KX (by simpa using hl)
  rw [List.append_nil] at hb1
  exact F.run A outer s H ⟨us, []⟩ us vs Q E hr e0 hb1 r hsp
/-- def f(a, .., *v) -/
theorem Fun.okStar {pv : Str} (F : Fun K x qual st f fd) (S : FnScope N (ps ++ [pv]) (defScope st))
    (hb : ∀ us rest : List Value, us.length = ps.length → bindArgs fd ⟨us ++ rest, []⟩ = (newTuple rest >>= fun t => pure (ps.zip us ++ [(pv, t)])))
    (hbody : ∀ (cdv : Value) (A : Around) (outer : List Env) (s : Shared) (H : Hp) (vs : List V) (Q : VK) (E : XK), Room k (A.deeper (envOfC qual (defScope st) s.heap.objs.size f cdv)) → sp vs H Q E →
      ∃ t, PSs (cxOf CX0 P w K mg base N qual (defScope st) f cdv A outer s H E).nox (defBody st) t ∧ t { nx := fun _ H' => Q .non H', rt := Q } (start N vs) H) :
    FnR P w K mg base CX0 (k + 1) f (fun vs H Q E => ∃ ws rest, vs = ws ++ rest ∧ ws.length = ps.length ∧ rest.length ≤ sizeLine ∧ ∀ p, H p = none → sp (ws ++ [V.ref p]) (upd H p (.tup rest)) Q E) := by
  obtain ⟨oc, od, kV, doc, pm, an, cdv, ct, osl, rfl, lk, hcd⟩ := F.ex
  refine fn_star lk hcd S cxUp_none hb fun A outer s H vs Q E hr hsp => ?_
  obtain ⟨t, h, q⟩ := hbody cdv A outer s H vs Q E hr hsp
  exact ⟨t, h.nox, q⟩
end
section
variable {M : Model} {A : Around} {E : Value → Shared → Prop} {s : Shared} {K : PySem.W.Frag} {env : Env} {pos p : Pos} {f : Value} {first : List Value} {Q : Value → Shared → Prop} {h₀ : Heap} {e e2 : Expr} {rest : List Expr}
/-- a call whose arguments begin with a starred one, and one more behind it -/
theorem callWith_SS (hk : PySem.W.keepIn K f = true) (h : wpAny M A (spliced (backTo pos (starEach (.Starred e p :: e2 :: rest) env))) (fun vs s₁ => K.In s₁.heap ∧ wpAny M A (call f (first ++ vs)) Q E s₁) E s) (he : starEach (.Starred e p :: e2 :: rest) env = (true, eval e env) :: starEach (e2 :: rest) env)
    {y : Bool × Sem Value} {ys : List (Bool × Sem Value)} (hy : starEach (e2 :: rest) env = y :: ys) : wpAny M A (callWith pos f first (backTo pos (starEach (.Starred e p :: e2 :: rest) env)) []) Q E s := by
  rw [he] at h ⊢
  refine PySem.W.ks_call (P := K.In) rfl (PySem.W.keeps_K hk) ?_
  rw [hy] at h ⊢
  unfold evalArgs
  show wpAny M A (spliced _ >>= _) _ E s
  exact wpAny_bind (wpAny_mono h (fun vs s' h' => wpAny_holding (wpAny_bind (wpAny_pure (wpAny_bind (wpAny_pure (wpAny_pure h')))))) fun _ _ x => x)
end
section
variable {X : Cx} {k j i : Nat} {C : Addr} {sp : Sp} {x m : Str} {np sp_ pos apos : Pos} {e e2 o : Expr} {es : List Expr} {te ta : TE} {t : TA} {K : PySem.W.Frag}
/-- a new instance, its __init__ by a positional promise -/
def rMk (C : Addr) (sp : Sp) : List V → Hp → VK → Prop := fun vs H Q => ∀ x dx, H x = none → H dx = none → dx ≠ x → sp (V.ref x :: vs) (upd (upd H dx (.own x)) x (.ins C dx [])) (fun v H2 => v = .non ∧ Q (.ref x) H2) E0
theorem run_mkR {pins : List (Addr × Obj)} {σ : L2.St} {H : Hp} {s : Shared} {Q : VK} {us : List Value} {vs : List V} (F : MkR X.prog X.w X.K X.mg X.base k C sp) (hr : Room j X.A) (hj : k + 1 ≤ j) (I : Inv X pins σ H s) (r : Vals vs us) (h : rMk C sp vs H Q) : wpAny (model X.prog X.w) X.A (call (.ref C) us) (EP X pins σ Q) X.xe s := by
  obtain ⟨f, M, G⟩ := F.ex
  exact run_makeR M G (hr.mono hj) pass0 I r h
theorem pe_mkA (F : MkR X.prog X.w X.K X.mg X.base k C sp) (hm : X.mg x = some (.ref C)) (hr : Room j X.A) (hj : k + 1 ≤ j) (ha : PA X (e :: es) t) (hg : Gl X x := by rfl) (hdb : (x == ("__debug__" : Str)) = false := by decide)
    (he : starEach (e :: es) X.env = (false, eval e X.env) :: starEach es X.env := by rfl) (hpl : (backTo pos (starEach es X.env)).any (·.1) = false := by rfl) : PE X (.Call (.Name x np) (e :: es) [] pos) (tCB (rMk C sp) t) := by
  refine ⟨fun pins s σ H Q I h => ?_⟩
  refine wpAny_Call_Name_kw (ld_glob I hg hm ?_ hdb)
  obtain ⟨f, M, G⟩ := id F.ex
  exact PySem.W.callWith_K (h₀ := X.base) I.ok.mod.kin M.kp (thn (ha.run pos pins s σ H _ I h) fun us s1 ⟨vs, H1, I1, r, q⟩ => ⟨I1.kIn, run_mkR F hr hj I1 r q⟩) he hpl
theorem pe_mk0 (F : MkR X.prog X.w X.K X.mg X.base k C sp) (hm : X.mg x = some (.ref C)) (hr : Room j X.A) (hj : k + 1 ≤ j) (hg : Gl X x := by rfl) (hdb : (x == ("__debug__" : Str)) = false := by decide) : PE X (.Call (.Name x np) [] [] pos) (tCB (rMk C sp) tNil) := by
  refine ⟨fun pins s σ H Q I h => ?_⟩
  obtain ⟨f, M, G⟩ := id F.ex
  exact wpAny_Call_Name_kw (ld_glob I hg hm (PySem.W.callWith_K0 I.kIn M.kp (run_mkR F hr hj I .nil h)) hdb)
/-- C(*y) -/
def tMk1 (K : PySem.W.Frag) (C : Addr) (sp : Sp) (te : TE) : TE := fun σ H Q => te σ H fun y H1 => ∃ a xs, y = .ref a ∧ (SqT K H1 a xs ∨ SqL K H1 a xs) ∧ rMk C sp xs H1 Q
theorem pe_mkS (F : MkR X.prog X.w X.K X.mg X.base k C sp) (hm : X.mg x = some (.ref C)) (hr : Room j X.A) (hj : k + 1 ≤ j) (he : PE X e te) (hg : Gl X x := by rfl) (hdb : (x == ("__debug__" : Str)) = false := by decide)
    (hst : starEach [.Starred e sp_] X.env = [(true, eval e X.env)] := by rfl) (hK : X.K = K := by rfl) : PE X (.Call (.Name x np) [.Starred e sp_] [] pos) (tMk1 K C sp te) := by
  subst hK
  refine ⟨fun pins s σ H Q I h => ?_⟩
  refine wpAny_Call_Name_kw (ld_glob I hg hm ?_ hdb)
  obtain ⟨f, M, G⟩ := id F.ex
  refine PySem.W.callWith_S (h₀ := X.base) I.ok.mod.kin M.kp (thn (he.run pins s σ H _ I h) fun v s1 ⟨y, H1, I1, ry, a, xs, ey, hxs, q⟩ => ?_) hst
  subst ey
  obtain rfl : v = Value.ref a := ry
  exact star_any I1 hxs fun us s2 I2 rv => ⟨I2.kIn, run_mkR F hr hj I2 rv q⟩
/-- C(*y, *z, ..) -/
theorem pe_mkSS {y : Bool × Sem Value} {ys : List (Bool × Sem Value)} (F : MkR X.prog X.w X.K X.mg X.base k C sp) (hm : X.mg x = some (.ref C)) (hr : Room j X.A) (hj : k + 1 ≤ j) (ha : PA X (.Starred e sp_ :: e2 :: es) t) (hg : Gl X x := by rfl) (hdb : (x == ("__debug__" : Str)) = false := by decide)
    (he : starEach (.Starred e sp_ :: e2 :: es) X.env = (true, eval e X.env) :: starEach (e2 :: es) X.env := by rfl) (hy : starEach (e2 :: es) X.env = y :: ys := by rfl) : PE X (.Call (.Name x np) (.Starred e sp_ :: e2 :: es) [] pos) (tCB (rMk C sp) t) := by
  refine ⟨fun pins s σ H Q I h => ?_⟩
  refine wpAny_Call_Name_kw (ld_glob I hg hm ?_ hdb)
  obtain ⟨f, M, G⟩ := id F.ex
  exact callWith_SS M.kp (thn (ha.run pos pins s σ H _ I h) fun us s1 ⟨vs, H1, I1, r, q⟩ => ⟨I1.kIn, run_mkR F hr hj I1 r q⟩) he hy
theorem pa_starP (he : PE X e te) (hr : PA X es t) (hs : starEach (.Starred e np :: es) X.env = (true, eval e X.env) :: starEach es X.env := by rfl) (hK : X.K = K := by rfl) : PA X (.Starred e np :: es) (tStar K te t) := by
  subst hK
  exact pa_star he hr hs
/-- cls(*y): the class stands in the i-th slot -/
def tClsS (K : PySem.W.Frag) (i : Nat) (C : Addr) (sp : Sp) (te : TE) : TE := fun σ H Q => σ[i]? = some (some (.ref C)) ∧ tMk1 K C sp te σ H Q
theorem pe_clsS (F : MkR X.prog X.w X.K X.mg X.base k C sp) (hr : Room j X.A) (hj : k + 1 ≤ j) (he : PE X e te) (hN : X.N[i]? = some x := by rfl) (hv : Vis X.env.scope x := by first | exact Or.inl rfl | exact Or.inr (Or.inl rfl) | exact Or.inr (Or.inr rfl)) (hdb : (x == ("__debug__" : Str)) = false := by decide) (hcd : (x == ("__classdict__" : Str)) = false := by decide)
    (hst : starEach [.Starred e sp_] X.env = [(true, eval e X.env)] := by rfl) (hK : X.K = K := by rfl) : PE X (.Call (.Name x np) [.Starred e sp_] [] pos) (tClsS K i C sp te) := by
  subst hK
  refine ⟨fun pins s σ H Q I h => ?_⟩
  obtain ⟨hs, ht⟩ := h
  refine wpAny_Call_Name_kw (thn ((pe_var (pos := np) hN hv hdb hcd).run pins s σ H (fun v H1 => v = .ref C ∧ H1 = H) I ⟨.ref C, hs, rfl, rfl⟩) fun u s1 ⟨v, H1, I1, r1, q1⟩ => ?_)
  obtain ⟨rfl, rfl⟩ := q1
  cases r1
  obtain ⟨f, M, G⟩ := id F.ex
  refine PySem.W.callWith_S (h₀ := X.base) I.ok.mod.kin M.kp (thn (he.run pins s1 σ _ _ I1 ht) fun v s2 ⟨y, H2, I2, ry, a, xs, ey, hxs, q⟩ => ?_) hst
  subst ey
  obtain rfl : v = Value.ref a := ry
  exact star_any I2 hxs fun us s3 I3 rv => ⟨I3.kIn, run_mkR F hr hj I3 rv q⟩
/-- C.m(e, ..), a classmethod -/
theorem pe_cm {pl : Sem Bool} (F : CmProm X.prog X.w X.K X.mg X.base k C m sp) (hr : Room j X.A) (hj : k ≤ j) (ho : PE X o ta) (ha : PA X (e :: es) t) (hst : starEach (e :: es) X.env = (false, eval e X.env) :: starEach es X.env := by rfl) (hpl : (backTo pos (starEach es X.env)).any (·.1) = false := by rfl)
    (ht : eval (.Call (.Attribute o m apos) (e :: es) [] pos) X.env = (do
      let ov ← eval o X.env
      standAt apos.atName
      let (f, first) ← holding [ov] (getMethod ov m pl)
      callWith pos f first (backTo pos (starEach (e :: es) X.env)) (backToKw pos (keywordEach [] X.env))) := by rfl) :
    PE X (.Call (.Attribute o m apos) (e :: es) [] pos) (tCMeth C sp E0 ta t) := by
  obtain ⟨mc, p, g, r, c, G⟩ := F.ex
  exact pe_cmeth ho r c G (hr.mono hj) pass0 ha hst hpl ht
end
end Kq

namespace Kq
open PySem PySem.Spec PyProof.Rows L2
structure MtProm (P : Program) (w : World) (K : PySem.W.Frag) (mg : Str → Option Value) (base : Heap) (k : Nat) (C : Addr) (m : Str) (sp : Sp) : Prop where
  ex : ∃ f fd ps, Meth K C m f ∧ Binds K fd ps [] ∧ FnOk P w K mg base CX0 k f fd ps sp
section
variable {X : Cx} {k j : Nat} {C : Addr} {sp : Sp} {x m : Str} {p pos apos : Pos} {e o : Expr} {es : List Expr} {ta : TE} {t : TA} {K : PySem.W.Frag} {v : V}
theorem pe_mt {pl : Sem Bool} (F : MtProm X.prog X.w X.K X.mg X.base k C m sp) (c : Cls X.K C) (hr : Room j X.A) (hj : k ≤ j) (ho : PE X o ta) (ha : PA X (e :: es) t) (hst : starEach (e :: es) X.env = (false, eval e X.env) :: starEach es X.env := by rfl) (hpl : (backTo pos (starEach es X.env)).any (·.1) = false := by rfl)
    (ht : eval (.Call (.Attribute o m apos) (e :: es) [] pos) X.env = (do
      let ov ← eval o X.env
      standAt apos.atName
      let (f, first) ← holding [ov] (getMethod ov m pl)
      callWith pos f first (backTo pos (starEach (e :: es) X.env)) (backToKw pos (keywordEach [] X.env))) := by rfl) :
    PE X (.Call (.Attribute o m apos) (e :: es) [] pos) (tMeth C m sp [] E0 ta t) := by
  obtain ⟨f, fd, ps, M, hb, G⟩ := F.ex
  exact pe_meth ho c M G (hr.mono hj) hb .nil pass0 ha hst hpl ht
theorem pe_mt0 {pl : Sem Bool} (F : MtProm X.prog X.w X.K X.mg X.base k C m sp) (c : Cls X.K C) (hr : Room j X.A) (hj : k ≤ j) (ho : PE X o ta)
    (ht : eval (.Call (.Attribute o m apos) [] [] pos) X.env = (do
      let ov ← eval o X.env
      standAt apos.atName
      let (f, first) ← holding [ov] (getMethod ov m pl)
      callWith pos f first (backTo pos (starEach [] X.env)) (backToKw pos (keywordEach [] X.env))) := by rfl) :
    PE X (.Call (.Attribute o m apos) [] [] pos) (tMeth C m sp [] E0 ta tNil) := by
  obtain ⟨f, fd, ps, M, hb, G⟩ := F.ex
  exact pe_meth0 ho c M G (hr.mono hj) hb .nil pass0 ht
theorem pe_gc (hg : Gl X x) (h : ∃ u, X.mg x = some u ∧ RelV v u) (hd : (x == ("__debug__" : Str)) = false := by decide) : PE X (.Name x p) (tC v) := by
  obtain ⟨u, hm, r⟩ := h
  exact pe_glob hg hm r hd
theorem callIsiP (hK : X.K = K := by rfl) : CallR X (.builtin "isinstance") (rIsi K) := by
  subst hK
  exact call_isi
theorem callIsiTP (hK : X.K = K := by rfl) : CallR X (.builtin "isinstance") (rIsiT K) := by
  subst hK
  exact call_isiT
theorem callAllP (hc : X.calm = true) (hK : X.K = K := by rfl) : CallR X (.builtin "all") (rAll K) := by
  subst hK
  exact cr_all hc
end
end Kq
namespace Kq
open PySem PySem.Spec PyProof.Rows L2
/-! ## a class of the text: made, read, asked for by isinstance -/
structure ClsI (K : PySem.W.Frag) (mg : Str → Option Value) (x : Str) (C : Addr) : Prop where
  hm : mg x = some (.ref C)
  cl : Cls K C
  ha : PySem.W.findIn K (.ref C) "__class__" = some (some (.builtin "object.__class__"))
  hn : PySem.W.specialIn K (.builtin "object.__class__") "__get__" = some (some (.builtin "getset_descriptor.__get__"))
  htk : PySem.W.takesIn K (.builtin "object.__class__") = some true
  ho : PySem.W.mroIn K C (.type "object") = some true
  ct : PySem.W.typeIn K (.ref C) = some (.type "type")
abbrev tys7 : List String := ["NoneType", "bool", "int", "str", "list", "tuple", "dict"]
section
variable {K : PySem.W.Frag} {mg : Str → Option Value} {x : Str} {C : Addr} {H : Hp}
theorem ClsI.ck (S : ClsI K mg x C) : ((PySem.W.clsIn K C).isSome && PySem.W.typeIn K (.ref C) == some (.type "type")) = true := by
  rw [S.ct]
  have h := S.ho
  unfold PySem.W.mroIn at h
  obtain ⟨cd, e, _⟩ := Option.bind_eq_some_iff.mp h
  rw [e]
  rfl
theorem ClsI.ins (S : ClsI K mg x C) {b dx : Addr} {fs : List (Str × V)} (e : H b = some (.ins C dx fs)) : TyX K H (.ref b) (.ref C) := .base (.ins e S.cl S.ha S.hn S.htk S.ho)
theorem kit_self : PySem.W.kitOne K (.ref C) (.ref C) = some true := by
  unfold PySem.W.kitOne
  simp
theorem ClsI.kitT (S : ClsI K mg x C) {t : String} (h : t ∈ tys7) : PySem.W.kitOne K (.type t) (.ref C) = some false := by
  unfold PySem.W.kitOne PySem.W.kitCls
  rw [if_neg (by simp)]
  simp only
  rw [if_pos S.ck]
  have h1 := notFirst_ty K C h
  unfold PySem.W.notFirst at h1
  rw [Bool.or_eq_true, beq_iff_eq, beq_iff_eq] at h1
  rcases h1 with h1 | h1
  · cases h1
  · exact h1
/-- plain values and their types -/
inductive TyV (H : Hp) : V → String → Prop
  | non : TyV H .non "NoneType"
  | bl (b : Bool) : TyV H (.bl b) "bool"
  | int (i : Int) : TyV H (.int i) "int"
  | str (x : Str) : TyV H (.str x) "str"
  | lst {a : Addr} {xs : List V} (e : H a = some (.lst xs)) : TyV H (.ref a) "list"
  | tup {a : Addr} {xs : List V} (e : H a = some (.tup xs)) : TyV H (.ref a) "tuple"
  | dct {a : Addr} {kvs : List (Key × V)} (e : H a = some (.dK kvs)) : TyV H (.ref a) "dict"
theorem TyV.mem {v : V} {t : String} (h : TyV H v t) : t ∈ tys7 := by cases h <;> decide
theorem TyV.tyX {v : V} {t : String} (h : TyV H v t) : TyX K H v (.type t) := by
  cases h with
  | non => exact .base .non
  | bl b => exact .base (.bl b)
  | int i => exact .base (.int i)
  | str x => exact .base (.str x)
  | lst e => exact .base (.lst e)
  | tup e => exact .base (.tup e)
  | dct e => exact .base (.dK e)
theorem TyV.mono {H' : Hp} {v : V} {t : String} (h : TyV H v t) (s : Same H H') : TyV H' v t := by
  cases h with
  | non => exact .non
  | bl b => exact .bl b
  | int i => exact .int i
  | str x => exact .str x
  | lst e => exact .lst (s _ _ e)
  | tup e => exact .tup (s _ _ e)
  | dct e => exact .dct (s _ _ e)
theorem Dq.tyV {T : Tb} {v : V} {d : PyData} (h : Dq T H v d) : ∃ t, TyV H v t := by
  cases h with
  | non => exact ⟨_, .non⟩
  | bl b => exact ⟨_, .bl b⟩
  | int i => exact ⟨_, .int i⟩
  | str x => exact ⟨_, .str x⟩
  | lst e _ => exact ⟨_, .lst e⟩
  | tup e _ => exact ⟨_, .tup e⟩
  | dct e => exact ⟨_, .dct e⟩
theorem kit_str {t : String} (h : t ∈ tys7) : PySem.W.kitOne K (.type t) (.type "str") = some (t == "str") := by
  have go : ∀ t ∈ tys7, kitB t "str" = some (t == "str") := by decide +kernel
  exact kit_ty (go t h)
theorem kit_list {t : String} (h : t ∈ tys7) : PySem.W.kitOne K (.type t) (.type "list") = some (t == "list") := by
  have go : ∀ t ∈ tys7, kitB t "list" = some (t == "list") := by decide +kernel
  exact kit_ty (go t h)
theorem kit_tuple {t : String} (h : t ∈ tys7) : PySem.W.kitOne K (.type t) (.type "tuple") = some (t == "tuple") := by
  have go : ∀ t ∈ tys7, kitB t "tuple" = some (t == "tuple") := by decide +kernel
  exact kit_ty (go t h)
theorem kit_int {t : String} (h : t ∈ tys7) : PySem.W.kitOne K (.type t) (.type "int") = some (t == "int" || t == "bool") := by
  have go : ∀ t ∈ tys7, kitB t "int" = some (t == "int" || t == "bool") := by decide +kernel
  exact kit_ty (go t h)
theorem kit_bool {t : String} (h : t ∈ tys7) : PySem.W.kitOne K (.type t) (.type "bool") = some (t == "bool") := by
  have go : ∀ t ∈ tys7, kitB t "bool" = some (t == "bool") := by decide +kernel
  exact kit_ty (go t h)
end
/-! ## words -/
abbrev ALPH : Str := "abcdefghijklmnopqrstuvwxyz"
theorem alph_range : ALPH.cps.toList = List.range' 97 26 := by decide +kernel
theorem alph_mem (c : Nat) : c ∈ ALPH.cps.toList ↔ 97 ≤ c ∧ c ≤ 122 := by
  rw [alph_range, List.mem_range'_1]
  omega
theorem isWB_iff (s : Str) : isWB s = true ↔ IsW s := by
  constructor
  · exact isW_of
  · rintro ⟨h1, h2, h3⟩
    unfold isWB
    simp only [Bool.and_eq_true, decide_eq_true_eq, List.all_eq_true]
    exact ⟨⟨h1, h2⟩, h3⟩
/-- what is_word tells of a value -/
def isWV : V → Bool
  | .str s => isWB s
  | _ => false
theorem TyV.isStr {H : Hp} {v : V} {t : String} (h : TyV H v t) (e : t = "str") : ∃ z, v = .str z := by
  cases h <;> first | exact ⟨_, rfl⟩ | exact absurd e (by decide)
theorem TyV.noStr {H : Hp} {v : V} {t : String} (h : TyV H v t) (e : ¬ t = "str") : isWV v = false := by
  cases h <;> first | rfl | exact absurd rfl e
end Kq
namespace Kq
open PySem PySem.Spec PyProof.Rows L2
theorem filt_yes {row : List Str} {p : Str → Bool} {i : Nat} {k : Str} (hk : row[i]? = some k) (hp : p k = true) : ((row.take (i + 1)).filter p).map V.str = ((row.take i).filter p).map V.str ++ [V.str k] := by
  rw [take_succ' hk, List.filter_append, List.filter_cons, if_pos hp, List.filter_nil, List.map_append]
  rfl
theorem filt_no {row : List Str} {p : Str → Bool} {i : Nat} {k : Str} (hk : row[i]? = some k) (hp : p k = false) : (row.take (i + 1)).filter p = (row.take i).filter p := by
  rw [take_succ' hk, List.filter_append, List.filter_cons, if_neg (by rw [hp]; exact Bool.false_ne_true), List.filter_nil, List.append_nil]
theorem filt_len {row : List Str} {p : Str → Bool} {i : Nat} (h : row.length ≤ 100000) : (((row.take i).filter p).map V.str).length < sizeLine := by
  have sz : (sizeLine : Nat) = 16777216 := sizeLine_eq
  have h1 := List.length_filter_le p (row.take i)
  rw [List.length_take] at h1
  rw [List.length_map]
  omega
theorem in_if {x : Str} {row : List Str} {b : Bool} (h : (if false = true then b else inV (.str x) (row.map V.str)) = true) : x ∈ row := by
  rw [if_neg Bool.false_ne_true, inV_strs] at h
  exact of_decide_eq_true h
theorem in_if' {x : Str} {row : List Str} {b : Bool} (h : ¬ (if false = true then b else inV (.str x) (row.map V.str)) = true) : x ∉ row := by
  rw [if_neg Bool.false_ne_true, inV_strs] at h
  exact fun z => h (decide_eq_true z)
theorem nin_if {x : Str} {row : List Str} {b : Bool} (h : (if true = true then !inV (.str x) (row.map V.str) else b) = true) : x ∉ row := by
  rw [if_pos rfl, inV_strs] at h
  simpa using h
theorem nin_if' {x : Str} {row : List Str} {b : Bool} (h : ¬ (if true = true then !inV (.str x) (row.map V.str) else b) = true) : x ∈ row := by
  rw [if_pos rfl, inV_strs] at h
  simpa using h
end Kq

namespace Kq
open PySem PySem.Spec PyProof.Rows L2
/-! ## < of plain data that is alike -/
section
variable {T : Tb} {X : Cx} {pins : List (Addr × Obj)} {σ : L2.St} {H : Hp} {s : Shared}
mutual
theorem Dq.reads0 (I : Inv X pins σ H s) (hT : flatT T = true) : ∀ {v : V} {d : PyData} (u : Value), Dq T H v d → RelV v u → ∃ as, Reads s.heap u d as
  | _, _, _, .non, r => by cases r; exact ⟨_, Reads.none⟩
  | _, _, _, .bl b, r => by cases r; exact ⟨_, Reads.bool b⟩
  | _, _, _, .int i, r => by obtain ⟨t, rfl⟩ := r; exact ⟨_, Reads.int i t⟩
  | _, _, _, .str x, r => by obtain ⟨t, rfl⟩ := r; exact ⟨_, Reads.str x t⟩
  | _, _, _, .lst (a := a) (xs := xs) e q, r => by
    cases r
    obtain ⟨z, its, n, rv, hget⟩ : ObjOk X.prog X.w H s.heap a (.lst xs) := I.hok _ _ e
    obtain ⟨as, hr⟩ := Dqs.reads0 I hT its q rv
    exact ⟨a :: as, Reads.list hget rfl rfl hr⟩
  | _, _, _, .tup (a := a) (xs := xs) e q, r => by
    cases r
    obtain ⟨z, its, rv, o, ho, hc, n, hd⟩ : ObjOk X.prog X.w H s.heap a (.tup xs) := I.hok _ _ e
    obtain ⟨as, hr⟩ := Dqs.reads0 I hT its q rv
    exact ⟨as, Reads.tuple ho hc hd hr⟩
  | _, _, _, .dct (a := a) e, r => by
    cases r
    obtain ⟨z, hy, vs, rv, o, es, ep, ho, hx, hd, hk, hp, nd⟩ : ObjOk X.prog X.w H s.heap a (.dK T) := I.hok _ _ e
    have k1 := keys_read (h := s.heap) hp
    have k2 := vals_read (h := s.heap) hp rv hT
    have e1 : (vs.map fun q => kD q.1) = T.map fun q => kD q.1 := by
      have := congrArg (List.map kD) (keys_same rv)
      rw [List.map_map, List.map_map] at this
      exact this.symm
    rw [e1] at k1
    have k1' : ReadsAll s.heap (es.toList.map (·.key)) ((T.map fun q => (kD q.1, vD q.2)).map (·.1)) [] := by rw [List.map_map]; exact k1
    have k2' : ReadsAll s.heap (es.toList.map (·.val)) ((T.map fun q => (kD q.1, vD q.2)).map (·.2)) [] := by rw [List.map_map]; exact k2
    exact ⟨a :: ([] ++ []), Reads.dict ho hx.1 hd k1' k2'⟩
theorem Dqs.reads0 (I : Inv X pins σ H s) (hT : flatT T = true) : ∀ {vs : List V} {ds : List PyData} (us : List Value), Dqs T H vs ds → Vals vs us → ∃ as, ReadsAll s.heap us ds as
  | _, _, _, .nil, r => by cases r; exact ⟨_, ReadsAll.nil⟩
  | _, _, _, .cons a b, r => by
    cases r with
    | cons r1 r2 =>
      obtain ⟨as, q1⟩ := Dq.reads0 I hT _ a r1
      obtain ⟨bs, q2⟩ := Dqs.reads0 I hT _ b r2
      exact ⟨as ++ bs, ReadsAll.cons q1 q2⟩
end
end
end Kq
namespace Kq
open PySem PySem.Spec PyProof.Rows L2
def rLtQ (T : Tb) : R2 := fun x y H Q => ∃ d e, Dq T H x d ∧ Dq T H y e ∧ PySem.W.alike d e = true ∧ d ≠ .none ∧ d.depth ≤ 60 ∧ Q (.bl (PySem.W.dataLt d e)) H
theorem op_ltQ {T : Tb} {X : Cx} (hT : flatT T = true) (hu : X.A.units + 64 < cLine) : OpR X (compareOp .Lt) (rLtQ T) := by
  intro pins s σ H x y v u Q I rx ry h
  obtain ⟨d, e, hd, he, ha, hn, hp, q⟩ := h
  obtain ⟨as, r1⟩ := Dq.reads0 I hT _ hd rx
  obtain ⟨bs, r2⟩ := Dq.reads0 I hT _ he ry
  exact PySem.W.rcLt_alike d e X.A s v u as bs r1 r2 ha hn (by omega) _ _ _ _ ⟨.bl _, H, I, rfl, q⟩
/-! ### the order of rows of texts: by the first that differs -/
def ltRow : List Str → List Str → Bool
  | [], [] => false
  | [], _ :: _ => true
  | _ :: _, [] => false
  | x :: xs, y :: ys => if x = y then ltRow xs ys else decide (LtS x y)
theorem eqv_str (x y : Str) : PyData.eqv (.str x) (.str y) = decide (x = y) := by
  rw [Bool.eq_iff_iff, decide_eq_true_eq]
  simp [PyData.eqv]
theorem ltRow_toks : ∀ xs ys : List Str, PyProof.Rows.lexLt itemOrd (PySem.W.keyToksAll (xs.map PyData.str)) (PySem.W.keyToksAll (ys.map PyData.str)) = ltRow xs ys
  | [], [] => by decide +kernel
  | [], y :: ys => by
    rw [List.map_nil, List.map_cons, PySem.W.toks_all_cons]
    unfold PySem.W.keyToksAll
    rw [PySem.W.lex_atom (by intro h; cases h)]
    show PyProof.Rows.lexLt itemOrd [Sum.inl 0] [Sum.inl 1] = true
    decide +kernel
  | x :: xs, [] => by
    rw [List.map_nil, List.map_cons, PySem.W.toks_all_cons]
    unfold PySem.W.keyToksAll
    rw [PySem.W.lex_atom (by intro h; cases h)]
    show PyProof.Rows.lexLt itemOrd [Sum.inl 1] [Sum.inl 0] = false
    decide +kernel
  | x :: xs, y :: ys => by
    have al : PySem.W.alike (.str x) (.str y) = true := by simp [PySem.W.alike]
    rw [List.map_cons, List.map_cons]
    by_cases e : x = y
    · rw [PySem.W.dataLt_all_yes al (by rw [eqv_str]; exact decide_eq_true e), ltRow_toks xs ys]
      show _ = if x = y then ltRow xs ys else decide (LtS x y)
      rw [if_pos e]
    · rw [PySem.W.dataLt_all_no al (by rw [eqv_str]; exact decide_eq_false e), PySem.W.dataLt_str]
      show _ = if x = y then ltRow xs ys else decide (LtS x y)
      rw [if_neg e]
      rfl
theorem alike_strs : ∀ xs ys : List Str, PySem.W.alikeAll (xs.map PyData.str) (ys.map PyData.str) = true
  | [], ys => by cases ys <;> simp [PySem.W.alikeAll]
  | x :: xs, [] => by simp [PySem.W.alikeAll]
  | x :: xs, y :: ys => by
    rw [List.map_cons, List.map_cons, PySem.W.alikeAll, alike_strs xs ys]
    simp [PySem.W.alike]
/-- fewer first, then by the texts -/
def aheadR (a b : List Str) : Bool := if a.length = b.length then ltRow a b else decide (a.length < b.length)
abbrev sizeRow (a : List Str) : PyData := .tuple [.int (a.length : Int), .tuple (a.map PyData.str)]
theorem eqv_rows : ∀ xs ys : List Str, PyData.eqvAll (xs.map PyData.str) (ys.map PyData.str) = decide (xs = ys)
  | [], [] => by simp [PyData.eqvAll]
  | [], y :: ys => by simp [PyData.eqvAll]
  | x :: xs, [] => by simp [PyData.eqvAll]
  | x :: xs, y :: ys => by
    rw [List.map_cons, List.map_cons, PySem.W.eqv_all_cons, eqv_rows xs ys, eqv_str]
    by_cases a : x = y <;> by_cases b : xs = ys <;> simp [a, b]
theorem sizeRow_lt (a b : List Str) : PySem.W.dataLt (sizeRow a) (sizeRow b) = aheadR a b := by
  have al1 : PySem.W.alike (.int (a.length : Int)) (.int (b.length : Int)) = true := by simp [PySem.W.alike]
  have al2 : PySem.W.alike (.tuple (a.map PyData.str)) (.tuple (b.map PyData.str)) = true := by
    rw [PySem.W.alike]
    exact alike_strs a b
  have ev : PyData.eqv (.int (a.length : Int)) (.int (b.length : Int)) = decide (a.length = b.length) := by
    rw [Bool.eq_iff_iff, decide_eq_true_eq]
    simp [PyData.eqv]
    omega
  unfold aheadR
  rw [PySem.W.dataLt_tuple]
  by_cases e : a.length = b.length
  · rw [if_pos e, PySem.W.dataLt_all_yes al1 (by rw [ev]; exact decide_eq_true e)]
    have ev2 : PyData.eqv (.tuple (a.map PyData.str)) (.tuple (b.map PyData.str)) = decide (a = b) := by
      rw [← eqv_rows]
      simp [PyData.eqv]
    by_cases e2 : a = b
    · rw [PySem.W.dataLt_all_yes al2 (by rw [ev2]; exact decide_eq_true e2)]
      subst e2
      have irr : ∀ xs : List Str, ltRow xs xs = false := fun xs => by
        induction xs with
        | nil => rfl
        | cons x xs ih => show (if x = x then ltRow xs xs else _) = false; rw [if_pos rfl, ih]
      rw [irr]
      decide +kernel
    · rw [PySem.W.dataLt_all_no al2 (by rw [ev2]; exact decide_eq_false e2), PySem.W.dataLt_tuple, ltRow_toks]
  · rw [if_neg e, PySem.W.dataLt_all_no al1 (by rw [ev]; exact decide_eq_false e), PySem.W.dataLt_int]
    rw [Bool.eq_iff_iff, decide_eq_true_eq, decide_eq_true_eq]
    omega
theorem ltRow_irrefl : ∀ xs : List Str, ltRow xs xs = false
  | [] => rfl
  | x :: xs => by show (if x = x then ltRow xs xs else _) = false; rw [if_pos rfl, ltRow_irrefl xs]
theorem ltRow_tri : ∀ {xs ys : List Str}, ltRow xs ys = false → ltRow ys xs = false → xs = ys
  | [], [], _, _ => rfl
  | [], y :: ys, h, _ => nomatch h
  | x :: xs, [], _, h => nomatch h
  | x :: xs, y :: ys, h1, h2 => by
    have h1 : (if x = y then ltRow xs ys else decide (LtS x y)) = false := h1
    have h2 : (if y = x then ltRow ys xs else decide (LtS y x)) = false := h2
    by_cases e : x = y
    · subst e
      rw [if_pos rfl] at h1 h2
      rw [ltRow_tri h1 h2]
    · rw [if_neg e] at h1
      rw [if_neg (Ne.symm e)] at h2
      exact absurd (LtS.tri (of_decide_eq_false h1) (of_decide_eq_false h2)) e
theorem ltRow_trans : ∀ {xs ys zs : List Str}, ltRow xs ys = true → ltRow ys zs = true → ltRow xs zs = true
  | [], [], _, h, _ => nomatch h
  | [], y :: ys, [], _, h => nomatch h
  | [], y :: ys, z :: zs, _, _ => rfl
  | x :: xs, [], _, h, _ => nomatch h
  | x :: xs, y :: ys, [], _, h => nomatch h
  | x :: xs, y :: ys, z :: zs, h1, h2 => by
    have h1 : (if x = y then ltRow xs ys else decide (LtS x y)) = true := h1
    have h2 : (if y = z then ltRow ys zs else decide (LtS y z)) = true := h2
    show (if x = z then ltRow xs zs else decide (LtS x z)) = true
    by_cases e1 : x = y
    · subst e1
      rw [if_pos rfl] at h1
      by_cases e2 : x = z
      · rw [if_pos e2] at h2 ⊢
        exact ltRow_trans h1 h2
      · rw [if_neg e2] at h2 ⊢
        exact h2
    · rw [if_neg e1] at h1
      have l1 := of_decide_eq_true h1
      by_cases e2 : y = z
      · subst e2
        rw [if_neg e1]
        exact h1
      · rw [if_neg e2] at h2
        have l2 := of_decide_eq_true h2
        have l3 := l1.trans l2
        rw [if_neg (fun e => LtS.irrefl x (by rw [← e] at l3; exact l3))]
        exact decide_eq_true l3
theorem ahead_irrefl (a : List Str) : aheadR a a = false := by
  unfold aheadR
  rw [if_pos rfl, ltRow_irrefl]
theorem ahead_tri {a b : List Str} (h1 : aheadR a b = false) (h2 : aheadR b a = false) : a = b := by
  unfold aheadR at h1 h2
  by_cases e : a.length = b.length
  · rw [if_pos e] at h1
    rw [if_pos e.symm] at h2
    exact ltRow_tri h1 h2
  · rw [if_neg e, decide_eq_false_iff_not] at h1
    rw [if_neg (Ne.symm e), decide_eq_false_iff_not] at h2
    omega
theorem ahead_trans {a b c : List Str} (h1 : aheadR a b = true) (h2 : aheadR b c = true) : aheadR a c = true := by
  unfold aheadR at h1 h2 ⊢
  by_cases e1 : a.length = b.length
  · rw [if_pos e1] at h1
    by_cases e2 : b.length = c.length
    · rw [if_pos e2] at h2
      rw [if_pos (e1.trans e2)]
      exact ltRow_trans h1 h2
    · rw [if_neg e2, decide_eq_true_eq] at h2
      rw [if_neg (by omega), decide_eq_true_eq]
      omega
  · rw [if_neg e1, decide_eq_true_eq] at h1
    by_cases e2 : b.length = c.length
    · rw [if_neg (by omega), decide_eq_true_eq]
      omega
    · rw [if_neg e2, decide_eq_true_eq] at h2
      rw [if_neg (by omega), decide_eq_true_eq]
      omega
theorem ahead_asymm {a b : List Str} (h : aheadR a b = true) : aheadR b a = false := by
  cases e : aheadR b a with
  | false => rfl
  | true =>
    have := ahead_trans h e
    rw [ahead_irrefl] at this
    cases this
theorem ahead_len {a b : List Str} (h : a.length < b.length) : aheadR a b = true := by
  unfold aheadR
  rw [if_neg (by omega), decide_eq_true_eq]
  exact h
end Kq

namespace Kq
open PySem PySem.Spec PyProof.Rows L2
/-! ## texts cut at blanks, and put together again -/
theorem cut_uniq {c : Nat} : ∀ {x x' A B : List Nat}, c ∉ x → c ∉ x' → x ++ c :: A = x' ++ c :: B → x = x' ∧ A = B
  | [], [], _, _, _, _, h => ⟨rfl, (List.cons.inj h).2⟩
  | [], y :: ys, _, _, _, h2, h => absurd (List.mem_cons.mpr (.inl (List.cons.inj h).1)) h2
  | x :: xs, [], _, _, h1, _, h => absurd (List.mem_cons.mpr (.inl (List.cons.inj h).1.symm)) h1
  | x :: xs, y :: ys, A, B, h1, h2, h => by
    obtain ⟨e1, e2⟩ := List.cons.inj h
    obtain ⟨r1, r2⟩ := cut_uniq (fun z => h1 (List.mem_cons_of_mem _ z)) (fun z => h2 (List.mem_cons_of_mem _ z)) e2
    exact ⟨by rw [e1, r1], r2⟩
theorem join_cps (c : Nat) (x y : Str) (r : List Str) : (Str.join ⟨#[c]⟩ (x :: y :: r)).cps.toList = x.cps.toList ++ c :: (Str.join ⟨#[c]⟩ (y :: r)).cps.toList := by
  show (x ++ ⟨#[c]⟩ ++ Str.join ⟨#[c]⟩ (y :: r)).cps.toList = _
  rw [str_app, str_app]
  simp
theorem join_inj (c : Nat) : ∀ {xs ys : List Str}, xs ≠ [] → ys ≠ [] → (∀ p ∈ xs, c ∉ p.cps.toList) → (∀ p ∈ ys, c ∉ p.cps.toList) → Str.join ⟨#[c]⟩ xs = Str.join ⟨#[c]⟩ ys → xs = ys
  | [], _, h, _, _, _, _ => absurd rfl h
  | _ :: _, [], _, h, _, _, _ => absurd rfl h
  | [x], [y], _, _, _, _, h => by rw [show x = y from h]
  | [x], y :: z :: r, _, _, h1, _, h => by
    have e : x.cps.toList = y.cps.toList ++ c :: (Str.join ⟨#[c]⟩ (z :: r)).cps.toList := by
      rw [← join_cps]
      exact congrArg (fun s : Str => s.cps.toList) h
    exact absurd (by rw [e]; simp) (h1 x (List.mem_cons_self ..))
  | x :: w :: r, [y], _, _, _, h2, h => by
    have e : x.cps.toList ++ c :: (Str.join ⟨#[c]⟩ (w :: r)).cps.toList = y.cps.toList := by
      rw [← join_cps]
      exact congrArg (fun s : Str => s.cps.toList) h
    exact absurd (by rw [← e]; simp) (h2 y (List.mem_cons_self ..))
  | x :: w :: r, y :: z :: q, _, _, h1, h2, h => by
    have e : x.cps.toList ++ c :: (Str.join ⟨#[c]⟩ (w :: r)).cps.toList = y.cps.toList ++ c :: (Str.join ⟨#[c]⟩ (z :: q)).cps.toList := by
      rw [← join_cps, ← join_cps]
      exact congrArg (fun s : Str => s.cps.toList) h
    obtain ⟨e1, e2⟩ := cut_uniq (h1 x (List.mem_cons_self ..)) (h2 y (List.mem_cons_self ..)) e
    rw [str_ext e1, join_inj c (by simp) (by simp) (fun p hp => h1 p (List.mem_cons_of_mem _ hp)) (fun p hp => h2 p (List.mem_cons_of_mem _ hp)) (str_ext e2)]
theorem blank_eq : (Str.ofString " " : Str) = ⟨#[32]⟩ := by decide +kernel
/-- words put together by blanks are found again -/
theorem split_words {row : List Str} (h : row ≠ []) (hw : ∀ s ∈ row, IsW s) : Txt.split (Txt.join (Str.ofString " ") row) (Str.ofString " ") = row := by
  rw [txt_join, blank_eq]
  refine join_inj 32 ?_ h (StrLaws.split_free _ 32) (fun p hp z => ?_) (StrLaws.join_split _ _)
  · intro e
    have := split_pos (Str.join ⟨#[32]⟩ row) ⟨#[32]⟩
    rw [e] at this
    exact absurd this (by decide)
  · have := (hw p hp).2.2 32 z
    omega
def midText (row : List Str) : Str := Txt.join (Str.ofString " ") row
def grpText (row : List Str) : Str := Txt.join (Str.ofString "") [Str.ofString "{", midText row, Str.ofString "}"]
theorem grp_cps (row : List Str) : (grpText row).cps.toList = 123 :: ((midText row).cps.toList ++ [125]) := by
  unfold grpText
  rw [join0]
  have e1 : (Str.ofString "{").cps.toList = [123] := by decide +kernel
  have e2 : (Str.ofString "}").cps.toList = [125] := by decide +kernel
  simp [e1, e2]
theorem grp_len (row : List Str) : (grpText row).length = (midText row).length + 2 := by
  rw [str_len, str_len, grp_cps]
  simp
theorem mid_len {row : List Str} (h : ∀ s ∈ row, IsW s) : (midText row).length ≤ 10 * row.length := by
  unfold midText
  rw [txt_join]
  have h1 := join_len (Str.ofString " ") (by decide +kernel) row
  have h2 : (row.map (·.length)).sum ≤ 8 * (row.map (·.length)).length := sum_le fun t ht => by
    obtain ⟨s, hs, rfl⟩ := List.mem_map.mp ht
    exact (h s hs).2.1
  rw [List.length_map] at h2
  omega
theorem mid_nil : (midText []).length = 0 := by decide +kernel
theorem mid_pos {row : List Str} (h : ∀ s ∈ row, IsW s) (hr : row ≠ []) : 1 ≤ (midText row).length := by
  match row, hr with
  | [x], _ => exact (h x (List.mem_cons_self ..)).1
  | x :: y :: r, _ =>
    unfold midText
    rw [txt_join, blank_eq, str_len, join_cps]
    rw [List.length_append, List.length_cons]
    omega
theorem grp_first (row : List Str) : atI (grpText row).cps.toList 0 = some 123 := by
  rw [grp_cps]
  exact atI_nat (j := 0) rfl
theorem grp_last (row : List Str) : atI (grpText row).cps.toList (-1) = some 125 := by
  rw [grp_cps]
  exact atI_last (123 :: (midText row).cps.toList) 125
theorem grp_mid (row : List Str) : cutS (grpText row) (some 1) (some (-1)) = midText row := by
  apply str_ext
  unfold cutS
  rw [grp_len]
  have a1 : HT.sIx ((midText row).length + 2) 0 (some 1) = 1 := by
    have := HT.sIx_nat ((midText row).length + 2) 0 1
    rw [show (some (1 : Int)) = some ((1 : Nat) : Int) from rfl, this]
    omega
  have a2 : HT.sIx ((midText row).length + 2) ((midText row).length + 2) (some (-1)) = (midText row).length + 1 := by
    unfold HT.sIx
    simp
    omega
  rw [a1, a2, grp_cps, List.drop_succ_cons, List.drop_zero]
  show ((((midText row).cps.toList ++ [125]).take _).toArray).toList = _
  rw [List.toList_toArray, List.take_append_of_le_length (by rw [← str_len]; omega), List.take_of_length_le (by rw [← str_len]; omega)]
end Kq

namespace L06
open PySem PySem.Spec PyProof.Rows L2 Kq StX ClX
section
variable {P : Program} {w : World} {K : PySem.W.Frag} {mg : Str → Option Value} {base : Heap}
abbrev TB : Tb := [(.inr "a", .non)]
theorem tbF : flatT TB = true := rfl
def top (i : Nat) : Stmt := PySem.Challenge.pw_keptphrases_k06_whole_sets_of_words.main.body.getD i (.Pass ⟨0, 0, 0, 0⟩)
abbrev st_is_word : Stmt := top 3
abbrev N_is_word : List Str := ["value", "letter"]
abbrev ps_is_word : List Str := ["value"]
theorem sc_is_word : FnScope N_is_word ps_is_word (defScope st_is_word) := ⟨rfl, rfl, rfl, by decide +kernel, rfl, by decide +kernel, by decide +kernel⟩
abbrev st_Group_init : Stmt := inClass (top 11) 1
abbrev N_Group_init : List Str := ["self", "words", "word", "row"]
abbrev ps_Group_init : List Str := ["self", "words"]
theorem sc_Group_init : FnScope N_Group_init ps_Group_init (defScope st_Group_init) := ⟨rfl, rfl, rfl, by decide +kernel, rfl, by decide +kernel, by decide +kernel⟩
abbrev st_Group_of : Stmt := inClass (top 11) 2
abbrev N_Group_of : List Str := ["cls", "words"]
abbrev ps_Group_of : List Str := ["cls", "words"]
theorem sc_Group_of : FnScope N_Group_of ps_Group_of (defScope st_Group_of) := ⟨rfl, rfl, rfl, by decide +kernel, rfl, by decide +kernel, by decide +kernel⟩
abbrev st_Group_read : Stmt := inClass (top 11) 3
abbrev N_Group_read : List Str := ["cls", "text", "row", "at", "word"]
abbrev ps_Group_read : List Str := ["cls", "text"]
theorem sc_Group_read : FnScope N_Group_read ps_Group_read (defScope st_Group_read) := ⟨rfl, rfl, rfl, by decide +kernel, rfl, by decide +kernel, by decide +kernel⟩
abbrev st_Group_len : Stmt := inClass (top 11) 4
abbrev N_Group_len : List Str := ["self"]
abbrev ps_Group_len : List Str := ["self"]
theorem sc_Group_len : FnScope N_Group_len ps_Group_len (defScope st_Group_len) := ⟨rfl, rfl, rfl, by decide +kernel, rfl, by decide +kernel, by decide +kernel⟩
abbrev st_Group_iter : Stmt := inClass (top 11) 5
abbrev N_Group_iter : List Str := ["self"]
abbrev ps_Group_iter : List Str := ["self"]
theorem sc_Group_iter : FnScope N_Group_iter ps_Group_iter (defScope st_Group_iter) := ⟨rfl, rfl, rfl, by decide +kernel, rfl, by decide +kernel, by decide +kernel⟩
abbrev st_Group_contains : Stmt := inClass (top 11) 6
abbrev N_Group_contains : List Str := ["self", "word"]
abbrev ps_Group_contains : List Str := ["self", "word"]
theorem sc_Group_contains : FnScope N_Group_contains ps_Group_contains (defScope st_Group_contains) := ⟨rfl, rfl, rfl, by decide +kernel, rfl, by decide +kernel, by decide +kernel⟩
abbrev st_Group_eq : Stmt := inClass (top 11) 7
abbrev N_Group_eq : List Str := ["self", "other"]
abbrev ps_Group_eq : List Str := ["self", "other"]
theorem sc_Group_eq : FnScope N_Group_eq ps_Group_eq (defScope st_Group_eq) := ⟨rfl, rfl, rfl, by decide +kernel, rfl, by decide +kernel, by decide +kernel⟩
abbrev st_Group_str : Stmt := inClass (top 11) 8
abbrev N_Group_str : List Str := ["self"]
abbrev ps_Group_str : List Str := ["self"]
theorem sc_Group_str : FnScope N_Group_str ps_Group_str (defScope st_Group_str) := ⟨rfl, rfl, rfl, by decide +kernel, rfl, by decide +kernel, by decide +kernel⟩
abbrev st_Group_and : Stmt := inClass (top 11) 9
abbrev N_Group_and : List Str := ["self", "other", "row", "word"]
abbrev ps_Group_and : List Str := ["self", "other"]
theorem sc_Group_and : FnScope N_Group_and ps_Group_and (defScope st_Group_and) := ⟨rfl, rfl, rfl, by decide +kernel, rfl, by decide +kernel, by decide +kernel⟩
abbrev st_Group_or : Stmt := inClass (top 11) 10
abbrev N_Group_or : List Str := ["self", "other"]
abbrev ps_Group_or : List Str := ["self", "other"]
theorem sc_Group_or : FnScope N_Group_or ps_Group_or (defScope st_Group_or) := ⟨rfl, rfl, rfl, by decide +kernel, rfl, by decide +kernel, by decide +kernel⟩
abbrev st_Group_sub : Stmt := inClass (top 11) 11
abbrev N_Group_sub : List Str := ["self", "other", "row", "word"]
abbrev ps_Group_sub : List Str := ["self", "other"]
theorem sc_Group_sub : FnScope N_Group_sub ps_Group_sub (defScope st_Group_sub) := ⟨rfl, rfl, rfl, by decide +kernel, rfl, by decide +kernel, by decide +kernel⟩
abbrev st_Group_xor : Stmt := inClass (top 11) 12
abbrev N_Group_xor : List Str := ["self", "other", "mine", "word", "row"]
abbrev ps_Group_xor : List Str := ["self", "other"]
theorem sc_Group_xor : FnScope N_Group_xor ps_Group_xor (defScope st_Group_xor) := ⟨rfl, rfl, rfl, by decide +kernel, rfl, by decide +kernel, by decide +kernel⟩
abbrev st_Group_within : Stmt := inClass (top 11) 13
abbrev N_Group_within : List Str := ["self", "other", "word"]
abbrev ps_Group_within : List Str := ["self", "other"]
theorem sc_Group_within : FnScope N_Group_within ps_Group_within (defScope st_Group_within) := ⟨rfl, rfl, rfl, by decide +kernel, rfl, by decide +kernel, by decide +kernel⟩
abbrev st_Group_overlaps : Stmt := inClass (top 11) 14
abbrev N_Group_overlaps : List Str := ["self", "other", "common", "word"]
abbrev ps_Group_overlaps : List Str := ["self", "other"]
theorem sc_Group_overlaps : FnScope N_Group_overlaps ps_Group_overlaps (defScope st_Group_overlaps) := ⟨rfl, rfl, rfl, by decide +kernel, rfl, by decide +kernel, by decide +kernel⟩
abbrev st_Group_is_ahead : Stmt := inClass (top 11) 15
abbrev N_Group_is_ahead : List Str := ["self", "other"]
abbrev ps_Group_is_ahead : List Str := ["self", "other"]
theorem sc_Group_is_ahead : FnScope N_Group_is_ahead ps_Group_is_ahead (defScope st_Group_is_ahead) := ⟨rfl, rfl, rfl, by decide +kernel, rfl, by decide +kernel, by decide +kernel⟩
abbrev st_pen : Stmt := top 13
abbrev N_pen : List Str := ["_law_script"]
abbrev ps_pen : List Str := ["_law_script"]
theorem sc_pen : FnScope N_pen ps_pen (defScope st_pen) := ⟨rfl, rfl, rfl, by decide +kernel, rfl, by decide +kernel, by decide +kernel⟩
abbrev st_draw : Stmt := top 14
abbrev N_draw : List Str := ["_law_pen_here", "_law_many", "_law_digit", "_law_at", "_law_cell", "_law_great", "_law_mixed"]
abbrev ps_draw : List Str := ["_law_pen_here", "_law_many"]
theorem sc_draw : FnScope N_draw ps_draw (defScope st_draw) := ⟨rfl, rfl, rfl, by decide +kernel, rfl, by decide +kernel, by decide +kernel⟩
abbrev st_pick : Stmt := top 15
abbrev N_pick : List Str := ["_law_pen_here", "_law_some"]
abbrev ps_pick : List Str := ["_law_pen_here", "_law_some"]
theorem sc_pick : FnScope N_pick ps_pick (defScope st_pick) := ⟨rfl, rfl, rfl, by decide +kernel, rfl, by decide +kernel, by decide +kernel⟩
abbrev st_word : Stmt := top 16
abbrev N_word : List Str := ["_law_pen_here", "_law_some", "_law_spot"]
abbrev ps_word : List Str := ["_law_pen_here"]
theorem sc_word : FnScope N_word ps_word (defScope st_word) := ⟨rfl, rfl, rfl, by decide +kernel, rfl, by decide +kernel, by decide +kernel⟩
abbrev st_words : Stmt := top 17
abbrev N_words : List Str := ["_law_pen_here", "_law_many", "_law_letters", "_law_sign", "_law_spare", "_law_found", "_law_turn", "_law_word_here", "_law_each"]
abbrev ps_words : List Str := ["_law_pen_here", "_law_many"]
theorem sc_words : FnScope N_words ps_words (defScope st_words) := ⟨rfl, rfl, rfl, by decide +kernel, rfl, by decide +kernel, by decide +kernel⟩
abbrev st_part : Stmt := top 18
abbrev N_part : List Str := ["_law_pen_here", "_law_words_here", "_law_most", "_law_way", "_law_found", "_law_word_here"]
abbrev ps_part : List Str := ["_law_pen_here", "_law_words_here", "_law_most"]
theorem sc_part : FnScope N_part ps_part (defScope st_part) := ⟨rfl, rfl, rfl, by decide +kernel, rfl, by decide +kernel, by decide +kernel⟩
abbrev st_turned : Stmt := top 19
abbrev N_turned : List Str := ["_law_pen_here", "_law_words_here", "_law_left", "_law_found", "_law_turn", "_law_at"]
abbrev ps_turned : List Str := ["_law_pen_here", "_law_words_here"]
theorem sc_turned : FnScope N_turned ps_turned (defScope st_turned) := ⟨rfl, rfl, rfl, by decide +kernel, rfl, by decide +kernel, by decide +kernel⟩
abbrev st_pairs : Stmt := top 20
abbrev N_pairs : List Str := ["_law_some", "_law_more", "_law_found", "_law_word_here", "_law_mate"]
abbrev ps_pairs : List Str := ["_law_some", "_law_more"]
theorem sc_pairs : FnScope N_pairs ps_pairs (defScope st_pairs) := ⟨rfl, rfl, rfl, by decide +kernel, rfl, by decide +kernel, by decide +kernel⟩
abbrev st_two : Stmt := top 21
abbrev N_two : List Str := ["_law_one", "_law_other", "_law_both", "_law_either", "_law_left", "_law_right", "_law_odd", "_law_order", "_law_each", "_law_word_here"]
abbrev ps_two : List Str := ["_law_one", "_law_other"]
theorem sc_two : FnScope N_two ps_two (defScope st_two) := ⟨rfl, rfl, rfl, by decide +kernel, rfl, by decide +kernel, by decide +kernel⟩
abbrev st_three : Stmt := top 22
abbrev N_three : List Str := ["_law_one", "_law_other", "_law_third"]
abbrev ps_three : List Str := ["_law_one", "_law_other", "_law_third"]
theorem sc_three : FnScope N_three ps_three (defScope st_three) := ⟨rfl, rfl, rfl, by decide +kernel, rfl, by decide +kernel, by decide +kernel⟩
abbrev st_law : Stmt := top 23
abbrev N_law : List Str := ["_law_script", "_law_pen_here", "_law_turn", "_law_words_here", "_law_rows", "_law_some", "_law_row", "_law_one", "_law_other", "_law_third"]
abbrev ps_law : List Str := ["_law_script"]
theorem sc_law : FnScope N_law ps_law (defScope st_law) := ⟨rfl, rfl, rfl, by decide +kernel, rfl, by decide +kernel, by decide +kernel⟩
structure Txt (K : PySem.W.Frag) (mg : Str → Option Value) : Prop where
  n_len : mg "len" = none
  n_int : mg "int" = none
  n_abs : mg "abs" = none
  n_list : mg "list" = none
  n_range : mg "range" = none
  n_repr : mg "repr" = none
  n_str : mg "str" = none
  n_tuple : mg "tuple" = none
  n_isinstance : mg "isinstance" = none
  n_sorted : mg "sorted" = none
  n_set : mg "set" = none
  n_iter : mg "iter" = none
  n_all : mg "all" = none
  n_min : mg "min" = none
  n_enumerate : mg "enumerate" = none
  c_LETTERS : ∃ u, mg "LETTERS" = some u ∧ RelV (.str ALPH) u
  c_MOST_WORDS : ∃ u, mg "MOST_WORDS" = some u ∧ RelV (.int 24) u
/-- is_word of any plain value -/
def spIsWord : Sp := fun vs H Q _ => ∃ v t, vs = [v] ∧ TyV H v t ∧ (∀ s, v = .str s → s.length ≤ 1000000) ∧ Q (.bl (isWV v)) H
theorem isWB_no {s : Str} (h : ¬ (1 ≤ s.length ∧ s.length ≤ 8)) : isWB s = false := by
  unfold isWB
  rw [Bool.and_eq_false_imp]
  intro z
  simp only [Bool.and_eq_true, decide_eq_true_eq] at z
  exact absurd z h
theorem ok_is_word {f : Addr} {fd : FuncData} (F : Fun K "is_word" "is_word" st_is_word f fd) (T : Txt K mg) : FnOk P w K mg base CX0 1 f fd ps_is_word spIsWord := by
  refine F.ok sc_is_word (fun vs H Q E h => ?_) (fun cdv A outer s H vs Q E hr h => ?_)
  · obtain ⟨v, t, rfl, _⟩ := h
    rfl
  · obtain ⟨v, t, rfl, ht, hv, q⟩ := h
    refine ⟨_, (pss_cons (ps_if (PW.pt (pw_or (pt_not (pt_truth (pe_callB (callIsiP (K := K)) rfl T.n_isinstance (by decide +kernel) (pa_cons (pv 0) (pa_cons (pe_bltn (v := .ty "str") rfl T.n_str (by decide +kernel) rfl) pa_nil))) (fun _ => rfl))) (pw_or1 (pt_not (pt_chain opLeP opLeP pe_int (pe_callB (callLenP (K := K)) rfl T.n_len (by decide +kernel) (pa_cons (pv 0) pa_nil)) pe_int))))) (pss_one (ps_ret pe_bl)) pss_nil) (pss_cons (ps_for PassesOwn.never rfl (pi_str (pv 0)) (pg_name (i := 1) sc_is_word.nd rfl (by first | exact Or.inl rfl | exact Or.inr rfl)) (pss_one (ps_if (pt_cmpR (opNinP (K := K)) (pv 1) (pe_gc rfl T.c_LETTERS) (by first | exact nomark _ | rfl)) (pss_one (ps_ret pe_bl)) pss_nil))) (pss_one (ps_ret pe_bl)))), ?_⟩
    refine ⟨_, rfl, _, _, _, _, (t == "str"), rfl, .ty "str", ht.tyX, kit_str ht.mem, (t == "str"), rfl, ?_⟩
    by_cases hs : t = "str"
    · obtain ⟨z, rfl⟩ := ht.isStr hs
      rw [show (t == "str") = true from by simpa using hs]
      have hz := hv z rfl
      have sz : (sizeLine : Nat) = 16777216 := sizeLine_eq
      refine iteF ?_
      refine ⟨_, rfl, Or.inr ⟨z, rfl, by omega, Or.inl ⟨_, _, rfl, rfl, _, rfl, ?_⟩⟩⟩
      refine ite2 (fun h1 => ?_) (fun h1 => ?_)
      · refine Or.inl ⟨_, _, rfl, rfl, _, rfl, ?_⟩
        have l1 : 1 ≤ z.length := by have := of_decide_eq_true h1; omega
        refine ite2 (fun h2 => ?_) (fun h2 => ?_)
        · have l2 : ¬ z.length ≤ 8 := by
            intro l
            rw [decide_eq_true (show (z.length : Int) ≤ 8 by omega)] at h2
            cases h2
          have e : isWV (.str z) = false := isWB_no fun l => l2 l.2
          rw [e] at q
          exact q
        · have l2 : z.length ≤ 8 := by
            by_cases l : (z.length : Int) ≤ 8
            · omega
            · rw [decide_eq_false l] at h2
              exact absurd rfl h2
          refine ⟨_, rfl, z, rfl, ?_⟩
          refine for_it walk_str (fun i σ' H' => H' = H ∧ (∀ c ∈ z.cps.toList.take i, 97 ≤ c ∧ c ≤ 122) ∧ ∃ x, σ' = [some (.str z), x]) ⟨rfl, by simp, _, rfl⟩ (fun _ _ _ _ _ => trivial) ?_ ?_
          · rintro i x σ' H1 H2 hi ⟨rfl, hc, y, rfl⟩ ⟨rfl, c, hci, rfl⟩
            have hc2 : z.cps.toList[i]? = some c := by rw [Array.getElem?_toList]; exact hci
            refine ⟨_, rfl, Or.inr ⟨c, _, rfl, rfl, _, rfl, ?_⟩⟩
            refine ite2 (fun h3 => ?_) (fun h3 => ?_)
            · have nc : c ∉ ALPH.cps.toList := by simpa using h3
              have e : isWV (.str z) = false := by
                show isWB z = false
                rw [Bool.eq_false_iff]
                intro hw
                exact nc ((alph_mem c).mpr ((isW_of hw).2.2 c (List.mem_of_getElem? hc2)))
              rw [e] at q
              exact q
            · have ic : c ∈ ALPH.cps.toList := by simpa using h3
              refine ⟨rfl, ?_, _, rfl⟩
              rw [take_succ' hc2]
              intro d hd
              rcases List.mem_append.mp hd with hd | hd
              · exact hc d hd
              · rw [List.mem_singleton] at hd
                rw [hd]
                exact (alph_mem c).mp ic
          · rintro σ' H1 ⟨rfl, hc, y, rfl⟩
            rw [show z.cps.size = z.cps.toList.length from (Array.length_toList).symm, take_all] at hc
            have e : isWV (.str z) = true := (isWB_iff z).mpr ⟨l1, l2, hc⟩
            rw [e] at q
            exact q
      · have e : isWV (.str z) = false := isWB_no fun l => by
          rw [decide_eq_true (show (1 : Int) ≤ z.length by omega)] at h1
          exact h1 rfl
        rw [e] at q
        exact ⟨false, rfl, iteT q⟩
    · rw [show (t == "str") = false from by simpa using hs]
      rw [ht.noStr hs] at q
      exact iteT q
end
end L06

namespace L06
open PySem PySem.Spec PyProof.Rows L2 Kq StX ClX
section
variable {P : Program} {w : World} {K : PySem.W.Frag} {mg : Str → Option Value} {base : Heap}
/-- the group of the texts of row stands at g -/
def GrpAt (C : Addr) (H : Hp) (g : Addr) (row : List Str) : Prop := ∃ dx t, H g = some (.ins C dx [("row", .ref t)]) ∧ H t = some (.tup (row.map V.str)) ∧ Ris1 row ∧ ∀ s ∈ row, IsW s
theorem GrpAt.mono {C : Addr} {H H' : Hp} {g : Addr} {row : List Str} (h : GrpAt C H g row) (s : Same H H') : GrpAt C H' g row := by
  obtain ⟨dx, t, h1, h2, h3⟩ := h
  exact ⟨dx, t, s _ _ h1, s _ _ h2, h3⟩
theorem row_get {t : Addr} : ([("row", V.ref t)] : List (Str × V)).lookup ("row" : Str) = some (.ref t) := by first | rfl | kernel_rfl
def spGInit (C : Addr) : Sp := fun vs H Q _ => ∃ (x p dx : Addr) (ws : List Str), vs = [.ref x, .ref p] ∧ H x = some (.ins C dx []) ∧ H p = some (.tup (ws.map V.str)) ∧ (∀ s ∈ ws, IsW s) ∧ ws.length ≤ 4000 ∧ (∀ ys : List Str, ys.Nodup → (∀ k ∈ ys, k ∈ ws) → ys.length ≤ 24) ∧
  ∀ (H' : Hp) (row : List Str) (t : Addr), Ris1 row → (∀ k, k ∈ row ↔ k ∈ ws) → H' x = some (.ins C dx [("row", .ref t)]) → H' t = some (.tup (row.map V.str)) → (∀ b, b ≠ x → H b ≠ none → H' b = H b) → Q .non H'
def spGInitR (C : Addr) : Sp := fun vs H Q E => ∃ (ws rest : List V), vs = ws ++ rest ∧ ws.length = 1 ∧ rest.length ≤ sizeLine ∧ ∀ p : Addr, H p = none → spGInit C (ws ++ [V.ref p]) (upd H p (.tup rest)) Q E
theorem ok_ginit {C : Addr} {f : Addr} {fd : FuncData} (F : Fun K "__init__" "Group.__init__" st_Group_init f fd) (T : Txt K mg) (S : ClsI K mg "Group" C) (nr : NoAttr K C "row") (P_is_word : Prom P w K mg base 1 "is_word" ps_is_word spIsWord)
    (hb : ∀ us rest : List Value, us.length = 1 → bindArgs fd ⟨us ++ rest, []⟩ = (newTuple rest >>= fun t => pure ((["self"] : List Str).zip us ++ [(("words" : Str), t)]))) : FnR P w K mg base CX0 2 f (spGInitR C) := by
  refine Kq.Fun.okStar (ps := ["self"]) (pv := "words") (sp := spGInit C) F sc_Group_init hb (fun cdv A outer s H vs Q E hr h => ?_)
  obtain ⟨x, p, dx, ws, rfl, hx, hp, hw, hl, h24, q⟩ := h
  refine ⟨_, (pss_cons (ps_for PassesOwn.never rfl (pi_tupP (K := K) (pv 1)) (pg_name (i := 2) sc_Group_init.nd rfl (by first | exact Or.inl rfl | exact Or.inr rfl)) (pss_one (ps_if (pt_not (pt_truth (pe_p P_is_word hr (by decide) (pa_cons (pv 2) pa_nil)) (fun _ => rfl))) (pss_one ps_never) pss_nil))) (pss_cons (ps_set (i := 3) sc_Group_init.nd rfl (by first | exact Or.inl rfl | exact Or.inr rfl) (pe_callB (call_sortedTxt rfl (P := P) (w := w)) rfl T.n_sorted (by decide +kernel) (pa_cons (pe_callTy (call_setT rfl (K := K) (P := P) (w := w)) rfl T.n_set (by decide +kernel) (pa_cons (pv 1) pa_nil)) pa_nil))) (pss_cons (ps_if (pt_cmpR opGtP (pe_callB (callLenP (K := K)) rfl T.n_len (by decide +kernel) (pa_cons (pv 3) pa_nil)) (pe_gc rfl T.c_MOST_WORDS) (by first | exact nomark _ | rfl)) (pss_one ps_never) pss_nil) (pss_one (ps_fld (pv 0) (pe_callTy (callTupleP (K := K)) rfl T.n_tuple (by decide +kernel) (pa_cons (pv 3) pa_nil)) rfl))))), ?_⟩
  refine ⟨_, rfl, p, rfl, ⟨_, SqT.of hp⟩, ?_⟩
  refine for_it walk_tup (fun i σ' H' => H' = H ∧ ∃ y, σ' = [some (.ref x), some (.ref p), y, none]) ⟨rfl, _, rfl⟩ (fun i σ H' _ h => by rw [h.1]; exact SqT.of hp) ?_ ?_
  · rintro i y σ' H1 H2 hi ⟨rfl, z, rfl⟩ ⟨rfl, hy⟩
    obtain ⟨k, hk, rfl⟩ := get_map_str hy
    have wk := hw k (List.mem_of_getElem? hk)
    have e : isWV (.str k) = true := (isWB_iff k).mpr wk
    refine ⟨_, rfl, .str k, _, rfl, .str k, fun s' es => ?_, ?_⟩
    · cases es
      have := wk.2.1
      omega
    · rw [e]
      exact ⟨true, rfl, iteF ⟨rfl, _, rfl⟩⟩
  rintro σ' H1 ⟨rfl, z, rfl⟩
  refine ⟨_, rfl, p, ws, rfl, Or.inl (SqT.of hp), hl, fun D hD => ?_⟩
  refine ⟨D, ws, rfl, upd_same, fun row r hr1 hm hr2 => ?_⟩
  have sz : (sizeLine : Nat) = 16777216 := sizeLine_eq
  have l24 : row.length ≤ 24 := h24 row hr1.nodup fun k hk => (hm k).mp hk
  refine ⟨_, rfl, Or.inl ⟨r, _, rfl, Or.inl (SqL.of upd_same), Or.inl ⟨_, _, rfl, rfl, _, rfl, ?_⟩⟩⟩
  rw [decide_eq_false (by rw [List.length_map]; omega)]
  refine iteF ?_
  refine ⟨_, rfl, r, _, rfl, Or.inl ⟨SqL.of upd_same, fun t ht => ?_⟩⟩
  have nxD := ne_of_none hx hD
  have nxr : x ≠ r := ne_of_none (by rw [upd_ne nxD]; exact hx) hr2
  have nxt : x ≠ t := ne_of_none (by rw [upd_ne nxr, upd_ne nxD]; exact hx) ht
  refine ⟨_, rfl, x, C, dx, [], rfl, by rw [upd_ne nxt, upd_ne nxr, upd_ne nxD]; exact hx, S.cl, nr, by decide, ?_⟩
  refine q _ row t hr1 hm upd_same (by rw [upd_ne nxt.symm, upd_same]) fun b hb1 hb2 => ?_
  obtain ⟨u, eu⟩ := Option.ne_none_iff_exists'.mp hb2
  have nbD := ne_of_none eu hD
  have nbr := ne_of_none (show upd H1 D (TxtO P w D ws) b = some u by rw [upd_ne nbD]; exact eu) hr2
  have nbt := ne_of_none (show upd (upd H1 D (TxtO P w D ws)) r (.lst (row.map V.str)) b = some u by rw [upd_ne nbr, upd_ne nbD]; exact eu) ht
  rw [upd_ne hb1, upd_ne nbt, upd_ne nbr, upd_ne nbD]
/-- Group(..) of words, not more than 24 -/
theorem mk_group {C : Addr} {H : Hp} {Q : VK} {ws : List Str} (hw : ∀ s ∈ ws, IsW s) (hl : ws.length ≤ 4000) (h24 : ∀ ys : List Str, ys.Nodup → (∀ k ∈ ys, k ∈ ws) → ys.length ≤ 24)
    (q : ∀ g H' row, H g = none → Same H H' → GrpAt C H' g row → (∀ k, k ∈ row ↔ k ∈ ws) → Q (.ref g) H') : rMk C (spGInitR C) (ws.map V.str) H Q := by
  intro x dx nx ndx ne
  have sz : (sizeLine : Nat) = 16777216 := sizeLine_eq
  refine ⟨[.ref x], ws.map V.str, rfl, rfl, by rw [List.length_map]; omega, fun p hp => ?_⟩
  have npx : p ≠ x := fun e => by rw [e, upd_same] at hp; cases hp
  refine ⟨x, p, dx, ws, rfl, by rw [upd_ne npx.symm, upd_same], upd_same, hw, hl, h24, fun H' row t hr hm h1 h2 h3 => ⟨rfl, ?_⟩⟩
  refine q x H' row nx (fun b u e => ?_) ⟨dx, t, h1, h2, hr, fun s hs => hw s ((hm s).mp hs)⟩ hm
  have n1 := ne_of_none e nx
  have n2 := ne_of_none e ndx
  have n3 : b ≠ p := fun z => by
    rw [z] at e
    rw [upd_ne npx] at hp
    by_cases zz : p = dx
    · rw [zz, upd_same] at hp; cases hp
    · rw [upd_ne zz, e] at hp; cases hp
  have e2 : upd (upd (upd H dx (.own x)) x (.ins C dx [])) p (.tup (ws.map V.str)) b = some u := by rw [upd_ne n3, upd_ne n1, upd_ne n2]; exact e
  rw [h3 b n1 (by rw [e2]; simp)]
  exact e2
end
end L06

namespace L06
open PySem PySem.Spec PyProof.Rows L2 Kq StX ClX
section
variable {P : Program} {w : World} {K : PySem.W.Frag} {mg : Str → Option Value} {base : Heap}
/-- what a new group's making leaves -/
def NewG (C : Addr) (H : Hp) (ws : List Str) (Q : VK) : Prop := ∀ (g : Addr) (H' : Hp) (row : List Str), H g = none → Same H H' → GrpAt C H' g row → (∀ k, k ∈ row ↔ k ∈ ws) → Q (.ref g) H'
def Few (ws : List Str) : Prop := (∀ s ∈ ws, IsW s) ∧ ws.length ≤ 4000 ∧ ∀ ys : List Str, ys.Nodup → (∀ k ∈ ys, k ∈ ws) → ys.length ≤ 24
theorem mkG {C : Addr} {H : Hp} {Q : VK} {ws : List Str} (h : Few ws) (q : NewG C H ws Q) : rMk C (spGInitR C) (ws.map V.str) H Q := mk_group h.1 h.2.1 h.2.2 q
def spOf (K : PySem.W.Frag) (C : Addr) : Sp := fun vs H Q _ => ∃ (l : Addr) (ws : List Str), vs = [.ref C, .ref l] ∧ (H l = some (.lst (ws.map V.str)) ∨ H l = some (.tup (ws.map V.str))) ∧ Few ws ∧ NewG C H ws Q
theorem NewG.same {C : Addr} {H H1 : Hp} {ws : List Str} {Q : VK} (h : NewG C H ws Q) (s : Same H H1) : NewG C H1 ws Q := fun g H' row n s2 at_ m => h g H' row (by
  cases e : H g with
  | none => rfl
  | some u => rw [s _ _ e] at n; cases n) (s.trans s2) at_ m
theorem ok_of {C_Group : Addr} {f : Addr} {fd : FuncData} (F : Fun K "of" "Group.of" st_Group_of f fd) (T : Txt K mg) (S_Group : ClsI K mg "Group" C_Group) (M_Group : MkR P w K mg base 2 C_Group (spGInitR C_Group)) : FnOk P w K mg base CX0 4 f fd ps_Group_of (spOf K C_Group) := by
  refine F.ok sc_Group_of (fun vs H Q E h => ?_) (fun cdv A outer s H vs Q E hr h => ?_)
  · obtain ⟨l, ws, rfl, _⟩ := h
    rfl
  · obtain ⟨l, ws, rfl, hl, hf, q⟩ := h
    refine ⟨_, (pss_cons (ps_if (pt_not (pt_truth (pe_callB (callIsiTP (K := K)) rfl T.n_isinstance (by decide +kernel) (pa_cons (pv 1) (pa_cons (pe_tup (pa_cons (pe_bltn (v := .ty "list") rfl T.n_list (by decide +kernel) rfl) (pa_cons (pe_bltn (v := .ty "tuple") rfl T.n_tuple (by decide +kernel) rfl) pa_nil))) pa_nil))) (fun _ => rfl))) (pss_one ps_never) pss_nil) (pss_one (ps_ret (pe_clsS (i := 0) (K := K) M_Group hr (by decide) (pv 1))))), ?_⟩
    refine ⟨_, rfl, by show 2 ≤ sizeLine; decide, fun tp ntp => ?_⟩
    have s1 : Same H (upd H tp (.tup [.ty "list", .ty "tuple"])) := Same.upd ntp
    have hl1 : (upd H tp (.tup [.ty "list", .ty "tuple"])) l = some (.lst (ws.map V.str)) ∨ (upd H tp (.tup [.ty "list", .ty "tuple"])) l = some (.tup (ws.map V.str)) := hl.imp (s1 _ _) (s1 _ _)
    have ty : ∃ t, TyV (upd H tp (.tup [.ty "list", .ty "tuple"])) (.ref l) t ∧ PySem.W.kitAny K (.type t) [.type "list", .type "tuple"] = some true := by
      rcases hl1 with h | h
      · refine ⟨_, .lst h, kitAny_cons (b := true) (r := true) (kit_list (by decide)) (fun z => nomatch z) fun _ => rfl⟩
      · refine ⟨_, .tup h, kitAny_cons (b := false) (r := true) (kit_list (by decide)) (fun _ => kitAny_cons (b := true) (r := true) (kit_tuple (by decide)) (fun z => nomatch z) fun _ => rfl) fun z => nomatch z⟩
    obtain ⟨t, hty, hk⟩ := ty
    refine ⟨_, tp, _, _, _, true, rfl, upd_same, .cons (.ty _) (.cons (.ty _) .nil), hty.tyX, hk, true, rfl, iteF ?_⟩
    refine ⟨rfl, _, rfl, l, _, rfl, hl1.elim (fun h => Or.inr (SqL.of h)) (fun h => Or.inl (SqT.of h)), mkG hf (q.same s1)⟩
theorem ok_len {C : Addr} {f : Addr} {fd : FuncData} (F : Fun K "__len__" "Group.__len__" st_Group_len f fd) (T : Txt K mg) (S : ClsI K mg "Group" C) (nr : NoAttr K C "row") : FnOk P w K mg base CX0 1 f fd ps_Group_len (spLenF K C "row") := by
  refine F.ok sc_Group_len (fun vs H Q E h => ?_) (fun cdv A outer s H vs Q E hr h => ?_)
  · obtain ⟨a, dx, fs, t, xs, rfl, _⟩ := h
    rfl
  · obtain ⟨a, dx, fs, t, xs, rfl, ha, hl, hx, q⟩ := h
    refine ⟨_, (pss_one (ps_ret (pe_callB (callLenP (K := K)) rfl T.n_len (by decide +kernel) (pa_cons (pe_fldP (K := K) (pv 0) rfl) pa_nil)))), ?_⟩
    exact ⟨_, rfl, a, C, dx, _, _, rfl, ha, S.cl, nr, hl, Or.inl ⟨t, xs, rfl, Or.inr hx, q⟩⟩
theorem ok_iter {C : Addr} {f : Addr} {fd : FuncData} (F : Fun K "__iter__" "Group.__iter__" st_Group_iter f fd) (T : Txt K mg) (S : ClsI K mg "Group" C) (nr : NoAttr K C "row") : FnS P w K mg base 1 f fd ps_Group_iter (spIter K C "row") := by
  refine Kq.Fun.okS F sc_Group_iter (fun n vs H Q E h => ?_) (fun cdv A outer s H vs Q E hr h => ?_)
  · obtain ⟨a, dx, fs, t, xs, rfl, _⟩ := h
    rfl
  · obtain ⟨a, dx, fs, t, xs, rfl, ha, hl, hx, q⟩ := h
    refine ⟨_, (pss_one (ps_ret (pe_callB call_iterT rfl T.n_iter (by decide +kernel) (pa_cons (pe_fldP (K := K) (pv 0) rfl) pa_nil)))), ?_⟩
    exact ⟨_, rfl, a, C, dx, _, _, rfl, ha, S.cl, nr, hl, t, xs, rfl, hx, q⟩
def inRow (v : V) (row : List Str) : Bool := match v with
  | .str s => decide (s ∈ row)
  | _ => false
theorem tyV_inRow0 {H : Hp} {v : V} {t : String} {row : List Str} (h : TyV H v t) (e : ¬ t = "str") : inRow v row = false := by
  cases h <;> first | rfl | exact absurd rfl e
def spContains (C : Addr) : Sp := fun vs H Q _ => ∃ g v t row, vs = [.ref g, v] ∧ GrpAt C H g row ∧ TyV H v t ∧ Q (.bl (inRow v row)) H
theorem ok_contains {C : Addr} {f : Addr} {fd : FuncData} (F : Fun K "__contains__" "Group.__contains__" st_Group_contains f fd) (T : Txt K mg) (S : ClsI K mg "Group" C) (nr : NoAttr K C "row") : FnOk P w K mg base CX0 1 f fd ps_Group_contains (spContains C) := by
  refine F.ok sc_Group_contains (fun vs H Q E h => ?_) (fun cdv A outer s H vs Q E hr h => ?_)
  · obtain ⟨g, v, t, row, rfl, _⟩ := h
    rfl
  · obtain ⟨g, v, t, row, rfl, ⟨dx, tt, hg, ht, _⟩, hv, q⟩ := h
    refine ⟨_, (pss_one (ps_ret (pe_and (pe_callB (callIsiP (K := K)) rfl T.n_isinstance (by decide +kernel) (pa_cons (pv 1) (pa_cons (pe_bltn (v := .ty "str") rfl T.n_str (by decide +kernel) rfl) pa_nil))) (pe_one (pe_cmpR (opInP (K := K)) (pv 1) (pe_fldP (K := K) (pv 0) rfl) (by first | exact nomark _ | rfl)))))), ?_⟩
    refine ⟨_, rfl, _, _, _, _, (t == "str"), rfl, .ty "str", hv.tyX, kit_str hv.mem, (t == "str"), rfl, ?_⟩
    by_cases hs : t = "str"
    · obtain ⟨z, rfl⟩ := hv.isStr hs
      rw [show (t == "str") = true from by simpa using hs]
      refine iteT ⟨_, rfl, _, rfl, g, C, dx, _, _, rfl, hg, S.cl, nr, row_get, Or.inl ⟨tt, _, rfl, Or.inr (SqT.of ht), rfl, Kq.flat_strs _, ?_⟩⟩
      rw [inV_strs]
      exact q
    · rw [show (t == "str") = false from by simpa using hs]
      rw [tyV_inRow0 hv hs] at q
      exact iteF q
theorem nrm_strs (xs ys : List Str) : nrm (.tuple (xs.map PyData.str)) = nrm (.tuple (ys.map PyData.str)) ↔ xs = ys := by
  have e : ∀ zs : List Str, nrms (zs.map PyData.str) = zs.map PyData.str := fun zs => by
    rw [nrms_map, List.map_map]
    exact List.map_congr_left fun z _ => by simp [nrm]
  simp only [nrm, e, PyData.tuple.injEq]
  exact List.map_inj_right fun a b h => PyData.str.inj h
theorem depth_strs (xs : List Str) : (PyData.tuple (xs.map PyData.str)).depth ≤ 60 := by
  show PyData.depthAll (xs.map PyData.str) + 1 ≤ 60
  have := depthAll_of (n := 0) (ds := xs.map PyData.str) fun d hd => by
    obtain ⟨x, _, rfl⟩ := List.mem_map.mp hd
    exact Nat.le_refl _
  omega
def spGEq (C : Addr) : Sp := fun vs H Q _ => ∃ g y row, vs = [.ref g, y] ∧ GrpAt C H g row ∧ ((∃ g2 row2, y = .ref g2 ∧ GrpAt C H g2 row2 ∧ Q (.bl (decide (row = row2))) H) ∨ (∃ t, TyV H y t ∧ Q (.bl false) H))
theorem ok_geq {C_Group : Addr} {f : Addr} {fd : FuncData} (F : Fun K "__eq__" "Group.__eq__" st_Group_eq f fd) (T : Txt K mg) (S_Group : ClsI K mg "Group" C_Group) (nr : NoAttr K C_Group "row") : FnOk P w K mg base CX0 1 f fd ps_Group_eq (spGEq C_Group) := by
  refine F.ok sc_Group_eq (fun vs H Q E h => ?_) (fun cdv A outer s H vs Q E hr h => ?_)
  · obtain ⟨g, y, row, rfl, _⟩ := h
    rfl
  · obtain ⟨g, y, row, rfl, ⟨dx, t, hg, ht, _⟩, h⟩ := h
    have hu := hr.units
    refine ⟨_, (pss_one (ps_ret (pe_and (pe_callB (callIsiP (K := K)) rfl T.n_isinstance (by decide +kernel) (pa_cons (pv 1) (pa_cons (pe_glob (v := .ref C_Group) rfl S_Group.hm rfl) pa_nil))) (pe_one (pe_cmpR (opEqP tbF hu) (pe_fldP (K := K) (pv 0) rfl) (pe_fldP (K := K) (pv 1) rfl) (by first | exact nomark _ | rfl)))))), ?_⟩
    rcases h with ⟨g2, row2, rfl, ⟨dx2, t2, hg2, ht2, _⟩, q⟩ | ⟨ty, hty, q⟩
    · refine ⟨_, rfl, _, _, _, _, true, rfl, .own _, S_Group.ins hg2, kit_self, true, rfl, iteT ?_⟩
      refine ⟨_, rfl, g, C_Group, dx, _, _, rfl, hg, S_Group.cl, nr, row_get, _, rfl, g2, C_Group, dx2, _, _, rfl, hg2, S_Group.cl, nr, row_get, Or.inr ⟨_, _, .tup ht (Dqs.strs row), .tup ht2 (Dqs.strs row2), depth_strs _, fun b hb => ?_⟩⟩
      have e : b = decide (row = row2) := by
        rw [Bool.eq_iff_iff, hb, nrm_strs, decide_eq_true_eq]
      rw [e]
      exact q
    · exact ⟨_, rfl, _, _, _, _, false, rfl, .own _, hty.tyX, S_Group.kitT hty.mem, false, rfl, iteF q⟩
end
end L06

namespace L06
open PySem PySem.Spec PyProof.Rows L2 Kq StX ClX
section
variable {P : Program} {w : World} {K : PySem.W.Frag} {mg : Str → Option Value} {base : Heap}
theorem few_sub {ws us : List Str} (h : Few ws) (hs : ∀ k ∈ us, k ∈ ws) (hl : us.length ≤ 4000) : Few us := ⟨fun s hs' => h.1 s (hs s hs'), hl, fun ys nd m => h.2.2 ys nd fun k hk => hs k (m k hk)⟩
theorem few_row {C : Addr} {H : Hp} {g : Addr} {row : List Str} (h : GrpAt C H g row) (hl : row.length ≤ 24) : Few row := by
  obtain ⟨dx, t, _, _, hr, hw⟩ := h
  exact ⟨hw, by omega, fun ys nd m => Nat.le_trans (nodup_le nd m) hl⟩
def spBin (C : Addr) (p : Str → List Str → List Str → Bool) : Sp := fun vs H Q _ => ∃ g g2 row row2, vs = [.ref g, .ref g2] ∧ GrpAt C H g row ∧ GrpAt C H g2 row2 ∧ row.length ≤ 24 ∧ row2.length ≤ 24 ∧ Few ((row ++ row2).filter fun k => p k row row2) ∧
  NewG C H ((row ++ row2).filter fun k => p k row row2) Q
def pAnd (k : Str) (r1 r2 : List Str) : Bool := decide (k ∈ r1) && decide (k ∈ r2)
def pOr (k : Str) (r1 r2 : List Str) : Bool := true
def pSub (k : Str) (r1 r2 : List Str) : Bool := decide (k ∈ r1) && !decide (k ∈ r2)
def pXor (k : Str) (r1 r2 : List Str) : Bool := decide (k ∈ r1) != decide (k ∈ r2)
theorem NewG.ext {C : Addr} {H : Hp} {ws us : List Str} {Q : VK} (h : NewG C H ws Q) (e : ∀ k, k ∈ us ↔ k ∈ ws) : NewG C H us Q := fun g H' row n s at_ m => h g H' row n s at_ fun k => (m k).trans (e k)
theorem Few.ext {ws us : List Str} (h : Few ws) (e : ∀ k, k ∈ us ↔ k ∈ ws) (hl : us.length ≤ 4000) : Few us := few_sub h (fun k hk => (e k).mp hk) hl
section
variable {C_Group : Addr} {f : Addr} {fd : FuncData}
theorem ok_and (F : Fun K "__and__" "Group.__and__" st_Group_and f fd) (T : Txt K mg) (S_Group : ClsI K mg "Group" C_Group) (nr : NoAttr K C_Group "row") (M_Group : MkR P w K mg base 2 C_Group (spGInitR C_Group)) : FnOk P w K mg base CX0 4 f fd ps_Group_and (spBin C_Group pAnd) := by
  refine F.ok sc_Group_and (fun vs H Q E h => ?_) (fun cdv A outer s H vs Q E hr h => ?_)
  · obtain ⟨g, g2, row, row2, rfl, _⟩ := h
    rfl
  · obtain ⟨g, g2, row, row2, rfl, ⟨dx, t, hg, ht, hr1, hw1⟩, ⟨dx2, t2, hg2, ht2, hr2, hw2⟩, l1, l2, hf, q⟩ := h
    refine ⟨_, (pss_cons (ps_if (pt_not (pt_truth (pe_callB (callIsiP (K := K)) rfl T.n_isinstance (by decide +kernel) (pa_cons (pv 1) (pa_cons (pe_glob (v := .ref C_Group) rfl S_Group.hm rfl) pa_nil))) (fun _ => rfl))) (pss_one ps_never) pss_nil) (pss_cons (ps_setLc (i := 2) (own := [("word", 3)]) rfl sc_Group_and.nd rfl rfl (sw_true rfl rfl rfl (by decide +kernel)) (pi_tupP (K := K) (pe_fldP (K := K) (pv 0) rfl)) (blkOk_by (N := N_Group_and) (sc := defScope st_Group_and) (by decide +kernel)) (fun _ _ _ _ _ => (pg_name (i := 3) sc_Group_and.nd rfl (by first | exact Or.inl rfl | exact Or.inr rfl))) (fun _ _ _ _ _ => (pts_one (pt_cmpR (opInP (K := K)) (pv 3) (pe_fldP (K := K) (pv 1) rfl) (by first | exact nomark _ | rfl)))) (fun _ _ _ _ _ => (pv 3))) (pss_one (ps_ret (pe_mkS (K := K) M_Group S_Group.hm hr (by decide) (pv 2)))))), ?_⟩
    refine ⟨_, rfl, _, _, _, _, true, rfl, .own _, S_Group.ins hg2, kit_self, true, rfl, iteF ?_⟩
    refine ⟨_, rfl, g, C_Group, dx, _, _, rfl, hg, S_Group.cl, nr, row_get, t, rfl, ⟨_, SqT.of ht⟩, fun D hD => ?_⟩
    refine lc_it walk_tup (fun j H' => Same H H' ∧ H' D = some (.lst (((row.take j).filter fun k => decide (k ∈ row2)).map V.str))) ⟨Same.upd hD, upd_same⟩ (fun _ _ _ h => SqT.of (h.1 _ _ ht)) ?_ ?_
    · rintro i x H1 H' hi ⟨s1, h1⟩ ⟨rfl, hx⟩
      obtain ⟨k, hk, rfl⟩ := get_map_str hx
      refine ⟨rfl, ?_⟩
      refine ⟨_, rfl, _, rfl, g2, C_Group, dx2, _, _, rfl, s1 _ _ hg2, S_Group.cl, nr, row_get, Or.inl ⟨t2, _, rfl, Or.inr (SqT.of (s1 _ _ ht2)), rfl, Kq.flat_strs _, _, rfl, ?_⟩⟩
      refine ite2 (fun hc => ?_) (fun hc => ?_)
      · exact ⟨_, rfl, _, h1, filt_len (by omega), sput s1 hD, by rw [upd_same, filt_yes hk (decide_eq_true (in_if hc))]⟩
      · exact ⟨s1, by rw [h1, filt_no hk (decide_eq_false (in_if' hc))]⟩
    · rintro H1 ⟨s1, h1⟩
      rw [List.length_map, take_all] at h1
      have me : ∀ k, k ∈ row.filter (fun k => decide (k ∈ row2)) ↔ k ∈ (row ++ row2).filter fun k => pAnd k row row2 := fun k => by
        simp only [List.mem_filter, List.mem_append, pAnd, Bool.and_eq_true, decide_eq_true_eq]
        exact ⟨fun ⟨a, b⟩ => ⟨Or.inl a, a, b⟩, fun ⟨_, a, b⟩ => ⟨a, b⟩⟩
      have ln : (row.filter fun k => decide (k ∈ row2)).length ≤ 4000 := Nat.le_trans (List.length_filter_le ..) (by omega)
      exact ⟨_, rfl, D, _, rfl, Or.inr (SqL.of h1), mkG (hf.ext me ln) ((q.ext me).same s1)⟩
theorem ok_sub (F : Fun K "__sub__" "Group.__sub__" st_Group_sub f fd) (T : Txt K mg) (S_Group : ClsI K mg "Group" C_Group) (nr : NoAttr K C_Group "row") (M_Group : MkR P w K mg base 2 C_Group (spGInitR C_Group)) : FnOk P w K mg base CX0 4 f fd ps_Group_sub (spBin C_Group pSub) := by
  refine F.ok sc_Group_sub (fun vs H Q E h => ?_) (fun cdv A outer s H vs Q E hr h => ?_)
  · obtain ⟨g, g2, row, row2, rfl, _⟩ := h
    rfl
  · obtain ⟨g, g2, row, row2, rfl, ⟨dx, t, hg, ht, hr1, hw1⟩, ⟨dx2, t2, hg2, ht2, hr2, hw2⟩, l1, l2, hf, q⟩ := h
    refine ⟨_, (pss_cons (ps_if (pt_not (pt_truth (pe_callB (callIsiP (K := K)) rfl T.n_isinstance (by decide +kernel) (pa_cons (pv 1) (pa_cons (pe_glob (v := .ref C_Group) rfl S_Group.hm rfl) pa_nil))) (fun _ => rfl))) (pss_one ps_never) pss_nil) (pss_cons (ps_setLc (i := 2) (own := [("word", 3)]) rfl sc_Group_sub.nd rfl rfl (sw_true rfl rfl rfl (by decide +kernel)) (pi_tupP (K := K) (pe_fldP (K := K) (pv 0) rfl)) (blkOk_by (N := N_Group_sub) (sc := defScope st_Group_sub) (by decide +kernel)) (fun _ _ _ _ _ => (pg_name (i := 3) sc_Group_sub.nd rfl (by first | exact Or.inl rfl | exact Or.inr rfl))) (fun _ _ _ _ _ => (pts_one (pt_cmpR (opNinP (K := K)) (pv 3) (pe_fldP (K := K) (pv 1) rfl) (by first | exact nomark _ | rfl)))) (fun _ _ _ _ _ => (pv 3))) (pss_one (ps_ret (pe_mkS (K := K) M_Group S_Group.hm hr (by decide) (pv 2)))))), ?_⟩
    refine ⟨_, rfl, _, _, _, _, true, rfl, .own _, S_Group.ins hg2, kit_self, true, rfl, iteF ?_⟩
    refine ⟨_, rfl, g, C_Group, dx, _, _, rfl, hg, S_Group.cl, nr, row_get, t, rfl, ⟨_, SqT.of ht⟩, fun D hD => ?_⟩
    refine lc_it walk_tup (fun j H' => Same H H' ∧ H' D = some (.lst (((row.take j).filter fun k => !decide (k ∈ row2)).map V.str))) ⟨Same.upd hD, upd_same⟩ (fun _ _ _ h => SqT.of (h.1 _ _ ht)) ?_ ?_
    · rintro i x H1 H' hi ⟨s1, h1⟩ ⟨rfl, hx⟩
      obtain ⟨k, hk, rfl⟩ := get_map_str hx
      refine ⟨rfl, ?_⟩
      refine ⟨_, rfl, _, rfl, g2, C_Group, dx2, _, _, rfl, s1 _ _ hg2, S_Group.cl, nr, row_get, Or.inl ⟨t2, _, rfl, Or.inr (SqT.of (s1 _ _ ht2)), rfl, Kq.flat_strs _, _, rfl, ?_⟩⟩
      refine ite2 (fun hc => ?_) (fun hc => ?_)
      · exact ⟨_, rfl, _, h1, filt_len (by omega), sput s1 hD, by rw [upd_same, filt_yes hk (by simpa using nin_if hc)]⟩
      · exact ⟨s1, by rw [h1, filt_no hk (by simpa using nin_if' hc)]⟩
    · rintro H1 ⟨s1, h1⟩
      rw [List.length_map, take_all] at h1
      have me : ∀ k, k ∈ row.filter (fun k => !decide (k ∈ row2)) ↔ k ∈ (row ++ row2).filter fun k => pSub k row row2 := fun k => by
        simp only [List.mem_filter, List.mem_append, pSub, Bool.and_eq_true, decide_eq_true_eq]
        exact ⟨fun ⟨a, b⟩ => ⟨Or.inl a, a, b⟩, fun ⟨_, a, b⟩ => ⟨a, b⟩⟩
      have ln : (row.filter fun k => !decide (k ∈ row2)).length ≤ 4000 := Nat.le_trans (List.length_filter_le ..) (by omega)
      exact ⟨_, rfl, D, _, rfl, Or.inr (SqL.of h1), mkG (hf.ext me ln) ((q.ext me).same s1)⟩
theorem ok_or (F : Fun K "__or__" "Group.__or__" st_Group_or f fd) (T : Txt K mg) (S_Group : ClsI K mg "Group" C_Group) (nr : NoAttr K C_Group "row") (M_Group : MkR P w K mg base 2 C_Group (spGInitR C_Group)) : FnOk P w K mg base CX0 4 f fd ps_Group_or (spBin C_Group pOr) := by
  refine F.ok sc_Group_or (fun vs H Q E h => ?_) (fun cdv A outer s H vs Q E hr h => ?_)
  · obtain ⟨g, g2, row, row2, rfl, _⟩ := h
    rfl
  · obtain ⟨g, g2, row, row2, rfl, ⟨dx, t, hg, ht, hr1, hw1⟩, ⟨dx2, t2, hg2, ht2, hr2, hw2⟩, l1, l2, hf, q⟩ := h
    refine ⟨_, (pss_cons (ps_if (pt_not (pt_truth (pe_callB (callIsiP (K := K)) rfl T.n_isinstance (by decide +kernel) (pa_cons (pv 1) (pa_cons (pe_glob (v := .ref C_Group) rfl S_Group.hm rfl) pa_nil))) (fun _ => rfl))) (pss_one ps_never) pss_nil) (pss_one (ps_ret (pe_mkSS M_Group S_Group.hm hr (by decide) (pa_starP (K := K) (pe_fldP (K := K) (pv 0) rfl) (pa_starP (K := K) (pe_fldP (K := K) (pv 1) rfl) pa_nil)))))), ?_⟩
    refine ⟨_, rfl, _, _, _, _, true, rfl, .own _, S_Group.ins hg2, kit_self, true, rfl, iteF ?_⟩
    refine ⟨_, rfl, g, C_Group, dx, _, _, rfl, hg, S_Group.cl, nr, row_get, t, _, rfl, Or.inl (SqT.of ht), ?_⟩
    refine ⟨_, rfl, g2, C_Group, dx2, _, _, rfl, hg2, S_Group.cl, nr, row_get, t2, _, rfl, Or.inl (SqT.of ht2), ?_⟩
    have e : row.map V.str ++ (row2.map V.str ++ []) = (row ++ row2).map V.str := by rw [List.append_nil, List.map_append]
    show rMk _ _ (row.map V.str ++ (row2.map V.str ++ [])) _ _
    rw [e]
    have me : ∀ k, k ∈ row ++ row2 ↔ k ∈ (row ++ row2).filter fun k => pOr k row row2 := fun k => by simp [pOr]
    exact mkG (hf.ext me (by rw [List.length_append]; omega)) (q.ext me)
theorem ok_xor (F : Fun K "__xor__" "Group.__xor__" st_Group_xor f fd) (T : Txt K mg) (S_Group : ClsI K mg "Group" C_Group) (nr : NoAttr K C_Group "row") (M_Group : MkR P w K mg base 2 C_Group (spGInitR C_Group)) : FnOk P w K mg base CX0 4 f fd ps_Group_xor (spBin C_Group pXor) := by
  refine F.ok sc_Group_xor (fun vs H Q E h => ?_) (fun cdv A outer s H vs Q E hr h => ?_)
  · obtain ⟨g, g2, row, row2, rfl, _⟩ := h
    rfl
  · obtain ⟨g, g2, row, row2, rfl, ⟨dx, t, hg, ht, hr1, hw1⟩, ⟨dx2, t2, hg2, ht2, hr2, hw2⟩, l1, l2, hf, q⟩ := h
    refine ⟨_, (pss_cons (ps_if (pt_not (pt_truth (pe_callB (callIsiP (K := K)) rfl T.n_isinstance (by decide +kernel) (pa_cons (pv 1) (pa_cons (pe_glob (v := .ref C_Group) rfl S_Group.hm rfl) pa_nil))) (fun _ => rfl))) (pss_one ps_never) pss_nil) (pss_cons (ps_setLc (i := 2) (own := [("word", 3)]) rfl sc_Group_xor.nd rfl rfl (sw_true rfl rfl rfl (by decide +kernel)) (pi_tupP (K := K) (pe_fldP (K := K) (pv 0) rfl)) (blkOk_by (N := N_Group_xor) (sc := defScope st_Group_xor) (by decide +kernel)) (fun _ _ _ _ _ => (pg_name (i := 3) sc_Group_xor.nd rfl (by first | exact Or.inl rfl | exact Or.inr rfl))) (fun _ _ _ _ _ => (pts_one (pt_cmpR (opNinP (K := K)) (pv 3) (pe_fldP (K := K) (pv 1) rfl) (by first | exact nomark _ | rfl)))) (fun _ _ _ _ _ => (pv 3))) (pss_cons (ps_set (i := 4) sc_Group_xor.nd rfl (by first | exact Or.inl rfl | exact Or.inr rfl) (pe_op (opAddP (K := K)) (pv 2) (pe_lc (own := [("word", 3)]) rfl sc_Group_xor.nd (pi_tupP (K := K) (pe_fldP (K := K) (pv 1) rfl)) (blkOk_by (N := N_Group_xor) (sc := defScope st_Group_xor) (by decide +kernel)) (fun _ _ _ _ _ => (pg_name (i := 3) sc_Group_xor.nd rfl (by first | exact Or.inl rfl | exact Or.inr rfl))) (fun _ _ _ _ _ => (pts_one (pt_cmpR (opNinP (K := K)) (pv 3) (pe_fldP (K := K) (pv 0) rfl) (by first | exact nomark _ | rfl)))) (fun _ _ _ _ _ => (pv 3))))) (pss_one (ps_ret (pe_mkS (K := K) M_Group S_Group.hm hr (by decide) (pv 4))))))), ?_⟩
    refine ⟨_, rfl, _, _, _, _, true, rfl, .own _, S_Group.ins hg2, kit_self, true, rfl, iteF ?_⟩
    refine ⟨_, rfl, g, C_Group, dx, _, _, rfl, hg, S_Group.cl, nr, row_get, t, rfl, ⟨_, SqT.of ht⟩, fun D hD => ?_⟩
    refine lc_it walk_tup (fun j H' => Same H H' ∧ H' D = some (.lst (((row.take j).filter fun k => !decide (k ∈ row2)).map V.str))) ⟨Same.upd hD, upd_same⟩ (fun _ _ _ h => SqT.of (h.1 _ _ ht)) ?_ ?_
    · rintro i x H1 H' hi ⟨s1, h1⟩ ⟨rfl, hx⟩
      obtain ⟨k, hk, rfl⟩ := get_map_str hx
      refine ⟨rfl, ?_⟩
      refine ⟨_, rfl, _, rfl, g2, C_Group, dx2, _, _, rfl, s1 _ _ hg2, S_Group.cl, nr, row_get, Or.inl ⟨t2, _, rfl, Or.inr (SqT.of (s1 _ _ ht2)), rfl, Kq.flat_strs _, _, rfl, ?_⟩⟩
      refine ite2 (fun hc => ?_) (fun hc => ?_)
      · exact ⟨_, rfl, _, h1, filt_len (by omega), sput s1 hD, by rw [upd_same, filt_yes hk (by simpa using nin_if hc)]⟩
      · exact ⟨s1, by rw [h1, filt_no hk (by simpa using nin_if' hc)]⟩
    rintro H1 ⟨s1, h1⟩
    rw [List.length_map, take_all] at h1
    refine ⟨_, rfl, _, rfl, g2, C_Group, dx2, _, _, rfl, s1 _ _ hg2, S_Group.cl, nr, row_get, t2, rfl, ⟨_, SqT.of (s1 _ _ ht2)⟩, fun B hB => ?_⟩
    refine lc_it walk_tup (fun j H' => Same H1 H' ∧ H' B = some (.lst (((row2.take j).filter fun k => !decide (k ∈ row)).map V.str))) ⟨Same.upd hB, upd_same⟩ (fun _ _ _ h => SqT.of (h.1 _ _ (s1 _ _ ht2))) ?_ ?_
    · rintro i x H2 H' hi ⟨s2, h2⟩ ⟨rfl, hx⟩
      obtain ⟨k, hk, rfl⟩ := get_map_str hx
      refine ⟨rfl, ?_⟩
      refine ⟨_, rfl, _, rfl, g, C_Group, dx, _, _, rfl, s2 _ _ (s1 _ _ hg), S_Group.cl, nr, row_get, Or.inl ⟨t, _, rfl, Or.inr (SqT.of (s2 _ _ (s1 _ _ ht))), rfl, Kq.flat_strs _, _, rfl, ?_⟩⟩
      refine ite2 (fun hc => ?_) (fun hc => ?_)
      · exact ⟨_, rfl, _, h2, filt_len (by omega), sput s2 hB, by rw [upd_same, filt_yes hk (by simpa using nin_if hc)]⟩
      · exact ⟨s2, by rw [h2, filt_no hk (by simpa using nin_if' hc)]⟩
    rintro H2 ⟨s2, h2⟩
    rw [List.length_map, take_all] at h2
    have ln1 : (row.filter fun k => !decide (k ∈ row2)).length ≤ 24 := Nat.le_trans (List.length_filter_le ..) (by omega)
    have ln2 : (row2.filter fun k => !decide (k ∈ row)).length ≤ 24 := Nat.le_trans (List.length_filter_le ..) (by omega)
    have sz : (sizeLine : Nat) = 16777216 := sizeLine_eq
    refine Or.inr (Or.inr (Or.inl ⟨D, B, _, _, rfl, rfl, s2 _ _ h1, h2, by rw [List.length_map, List.length_map]; omega, fun R hR => ?_⟩))
    rw [map_strs]
    have me : ∀ k, k ∈ row.filter (fun k => !decide (k ∈ row2)) ++ row2.filter (fun k => !decide (k ∈ row)) ↔ k ∈ (row ++ row2).filter fun k => pXor k row row2 := fun k => by
      simp only [List.mem_filter, List.mem_append, pXor, Bool.not_eq_true', decide_eq_false_iff_not, bne_iff_ne, ne_eq, decide_eq_decide]
      by_cases a : k ∈ row <;> by_cases b : k ∈ row2 <;> simp [a, b]
    exact ⟨_, rfl, R, _, rfl, Or.inr (SqL.of upd_same), mkG (hf.ext me (by rw [List.length_append]; omega)) ((q.ext me).same ((s1.trans s2).trans (Same.upd hR)))⟩
end
end
end L06

namespace L06
open PySem PySem.Spec PyProof.Rows L2 Kq StX ClX
section
variable {P : Program} {w : World} {K : PySem.W.Frag} {mg : Str → Option Value} {base : Heap}
section
variable {C_Group : Addr} {f : Addr} {fd : FuncData}
def spAsk (C : Addr) (p : List Str → List Str → Bool) : Sp := fun vs H Q _ => ∃ g g2 row row2, vs = [.ref g, .ref g2] ∧ GrpAt C H g row ∧ GrpAt C H g2 row2 ∧ row.length ≤ 24 ∧ row2.length ≤ 24 ∧ ∀ H', Same H H' → Q (.bl (p row row2)) H'
def pWithin (r1 r2 : List Str) : Bool := r1.all fun k => decide (k ∈ r2)
def common (r1 r2 : List Str) : List Str := r1.filter fun k => decide (k ∈ r2)
def pOver (r1 r2 : List Str) : Bool := decide (0 < (common r1 r2).length) && decide ((common r1 r2).length < min r1.length r2.length)
theorem ok_within (F : Fun K "within" "Group.within" st_Group_within f fd) (T : Txt K mg) (S_Group : ClsI K mg "Group" C_Group) (nr : NoAttr K C_Group "row") : FnOk P w K mg base CX0 1 f fd ps_Group_within (spAsk C_Group pWithin) := by
  refine F.ok sc_Group_within (fun vs H Q E h => ?_) (fun cdv A outer s H vs Q E hr h => ?_)
  · obtain ⟨g, g2, row, row2, rfl, _⟩ := h
    rfl
  · obtain ⟨g, g2, row, row2, rfl, ⟨dx, t, hg, ht, hr1, hw1⟩, ⟨dx2, t2, hg2, ht2, hr2, hw2⟩, l1, l2, q⟩ := h
    refine ⟨_, (pss_cons (ps_if (pt_not (pt_truth (pe_callB (callIsiP (K := K)) rfl T.n_isinstance (by decide +kernel) (pa_cons (pv 1) (pa_cons (pe_glob (v := .ref C_Group) rfl S_Group.hm rfl) pa_nil))) (fun _ => rfl))) (pss_one ps_never) pss_nil) (pss_one (ps_ret (pe_callB (callAllP rfl (K := K)) rfl T.n_all (by decide +kernel) (pa_cons (pe_lc (own := [("word", 2)]) rfl sc_Group_within.nd (pi_tupP (K := K) (pe_fldP (K := K) (pv 0) rfl)) (blkOk_by (N := N_Group_within) (sc := defScope st_Group_within) (by decide +kernel)) (fun _ _ _ _ _ => (pg_name (i := 2) sc_Group_within.nd rfl (by first | exact Or.inl rfl | exact Or.inr rfl))) (fun _ _ _ _ _ => pts_nil) (fun _ _ _ _ _ => (pe_cmpR (opInP (K := K)) (pv 2) (pe_fldP (K := K) (pv 1) rfl) (by first | exact nomark _ | rfl)))) pa_nil))))), ?_⟩
    refine ⟨_, rfl, _, _, _, _, true, rfl, .own _, S_Group.ins hg2, kit_self, true, rfl, iteF ?_⟩
    refine ⟨_, rfl, g, C_Group, dx, _, _, rfl, hg, S_Group.cl, nr, row_get, t, rfl, ⟨_, SqT.of ht⟩, fun D hD => ?_⟩
    refine lc_it walk_tup (fun j H' => Same H H' ∧ H' D = some (.lst (((row.take j).map fun k => decide (k ∈ row2)).map V.bl))) ⟨Same.upd hD, upd_same⟩ (fun _ _ _ h => SqT.of (h.1 _ _ ht)) ?_ ?_
    · rintro i x H1 H' hi ⟨s1, h1⟩ ⟨rfl, hx⟩
      obtain ⟨k, hk, rfl⟩ := get_map_str hx
      refine ⟨rfl, tYes_go ?_⟩
      refine ⟨_, rfl, _, rfl, g2, C_Group, dx2, _, _, rfl, s1 _ _ hg2, S_Group.cl, nr, row_get, Or.inl ⟨t2, _, rfl, Or.inr (SqT.of (s1 _ _ ht2)), rfl, Kq.flat_strs _, ?_⟩⟩
      refine ⟨_, h1, ?_, sput s1 hD, ?_⟩
      · have sz : (sizeLine : Nat) = 16777216 := sizeLine_eq
        rw [List.length_map, List.length_map, List.length_take]
        omega
      · rw [upd_same, inV_strs, take_succ' hk, List.map_append, List.map_append]
        rfl
    · rintro H1 ⟨s1, h1⟩
      rw [List.length_map, take_all] at h1
      refine ⟨D, _, rfl, SqL.of h1, ?_⟩
      rw [List.all_map]
      exact q _ s1
theorem ok_overlaps (F : Fun K "overlaps" "Group.overlaps" st_Group_overlaps f fd) (T : Txt K mg) (S_Group : ClsI K mg "Group" C_Group) (nr : NoAttr K C_Group "row") : FnOk P w K mg base CX0 1 f fd ps_Group_overlaps (spAsk C_Group pOver) := by
  refine F.ok sc_Group_overlaps (fun vs H Q E h => ?_) (fun cdv A outer s H vs Q E hr h => ?_)
  · obtain ⟨g, g2, row, row2, rfl, _⟩ := h
    rfl
  · obtain ⟨g, g2, row, row2, rfl, ⟨dx, t, hg, ht, hr1, hw1⟩, ⟨dx2, t2, hg2, ht2, hr2, hw2⟩, l1, l2, q⟩ := h
    refine ⟨_, (pss_cons (ps_if (pt_not (pt_truth (pe_callB (callIsiP (K := K)) rfl T.n_isinstance (by decide +kernel) (pa_cons (pv 1) (pa_cons (pe_glob (v := .ref C_Group) rfl S_Group.hm rfl) pa_nil))) (fun _ => rfl))) (pss_one ps_never) pss_nil) (pss_cons (ps_set (i := 2) sc_Group_overlaps.nd rfl (by first | exact Or.inl rfl | exact Or.inr rfl) (pe_callB (callLenP (K := K)) rfl T.n_len (by decide +kernel) (pa_cons (pe_lc (own := [("word", 3)]) rfl sc_Group_overlaps.nd (pi_tupP (K := K) (pe_fldP (K := K) (pv 0) rfl)) (blkOk_by (N := N_Group_overlaps) (sc := defScope st_Group_overlaps) (by decide +kernel)) (fun _ _ _ _ _ => (pg_name (i := 3) sc_Group_overlaps.nd rfl (by first | exact Or.inl rfl | exact Or.inr rfl))) (fun _ _ _ _ _ => (pts_one (pt_cmpR (opInP (K := K)) (pv 3) (pe_fldP (K := K) (pv 1) rfl) (by first | exact nomark _ | rfl)))) (fun _ _ _ _ _ => (pv 3))) pa_nil))) (pss_one (ps_ret (pe_chain opLtP opLtP pe_int (pv 2) (pe_callB (call_min2 rfl) rfl T.n_min (by decide +kernel) (pa_cons (pe_callB (callLenP (K := K)) rfl T.n_len (by decide +kernel) (pa_cons (pe_fldP (K := K) (pv 0) rfl) pa_nil)) (pa_cons (pe_callB (callLenP (K := K)) rfl T.n_len (by decide +kernel) (pa_cons (pe_fldP (K := K) (pv 1) rfl) pa_nil)) pa_nil)))))))), ?_⟩
    refine ⟨_, rfl, _, _, _, _, true, rfl, .own _, S_Group.ins hg2, kit_self, true, rfl, iteF ?_⟩
    refine ⟨_, rfl, g, C_Group, dx, _, _, rfl, hg, S_Group.cl, nr, row_get, t, rfl, ⟨_, SqT.of ht⟩, fun D hD => ?_⟩
    refine lc_it walk_tup (fun j H' => Same H H' ∧ H' D = some (.lst (((row.take j).filter fun k => decide (k ∈ row2)).map V.str))) ⟨Same.upd hD, upd_same⟩ (fun _ _ _ h => SqT.of (h.1 _ _ ht)) ?_ ?_
    · rintro i x H1 H' hi ⟨s1, h1⟩ ⟨rfl, hx⟩
      obtain ⟨k, hk, rfl⟩ := get_map_str hx
      refine ⟨rfl, ?_⟩
      refine ⟨_, rfl, _, rfl, g2, C_Group, dx2, _, _, rfl, s1 _ _ hg2, S_Group.cl, nr, row_get, Or.inl ⟨t2, _, rfl, Or.inr (SqT.of (s1 _ _ ht2)), rfl, Kq.flat_strs _, _, rfl, ?_⟩⟩
      refine ite2 (fun hc => ?_) (fun hc => ?_)
      · exact ⟨_, rfl, _, h1, filt_len (by omega), sput s1 hD, by rw [upd_same, filt_yes hk (decide_eq_true (in_if hc))]⟩
      · exact ⟨s1, by rw [h1, filt_no hk (decide_eq_false (in_if' hc))]⟩
    · rintro H1 ⟨s1, h1⟩
      rw [List.length_map, take_all] at h1
      have q1 := q H1 s1
      refine Or.inl ⟨D, _, rfl, Or.inl (SqL.of h1), ?_⟩
      rw [List.length_map]
      refine ⟨_, rfl, Or.inl ⟨_, _, rfl, rfl, _, rfl, ?_⟩⟩
      refine ite2 (fun h0 => ?_) (fun h0 => ?_)
      · refine ⟨_, rfl, g, C_Group, dx, _, _, rfl, s1 _ _ hg, S_Group.cl, nr, row_get, Or.inl ⟨t, _, rfl, Or.inr (SqT.of (s1 _ _ ht)), ?_⟩⟩
        refine ⟨_, rfl, g2, C_Group, dx2, _, _, rfl, s1 _ _ hg2, S_Group.cl, nr, row_get, Or.inl ⟨t2, _, rfl, Or.inr (SqT.of (s1 _ _ ht2)), ?_⟩⟩
        refine ⟨_, _, rfl, Or.inl ⟨_, _, rfl, rfl, ?_⟩⟩
        have p1 : 0 < (common row row2).length := by have := of_decide_eq_true h0; unfold common; omega
        have e : (decide (((row.filter fun k => decide (k ∈ row2)).length : Int) < if ((row2.map V.str).length : Int) < (row.map V.str).length then ((row2.map V.str).length : Int) else (row.map V.str).length)) = pOver row row2 := by
          unfold pOver
          rw [decide_eq_true p1, Bool.true_and, Bool.eq_iff_iff, decide_eq_true_eq, decide_eq_true_eq, List.length_map, List.length_map]
          unfold common
          split <;> omega
        rw [← e] at q1
        exact q1
      · have p1 : ¬ 0 < (common row row2).length := fun z => h0 (decide_eq_true (by unfold common at z; omega))
        have e : pOver row row2 = false := by
          unfold pOver
          rw [decide_eq_false p1, Bool.false_and]
        rw [e] at q1
        exact q1
theorem ok_ahead (F : Fun K "is_ahead" "Group.is_ahead" st_Group_is_ahead f fd) (T : Txt K mg) (S_Group : ClsI K mg "Group" C_Group) (nr : NoAttr K C_Group "row") : FnOk P w K mg base CX0 1 f fd ps_Group_is_ahead (spAsk C_Group aheadR) := by
  refine F.ok sc_Group_is_ahead (fun vs H Q E h => ?_) (fun cdv A outer s H vs Q E hr h => ?_)
  · obtain ⟨g, g2, row, row2, rfl, _⟩ := h
    rfl
  · obtain ⟨g, g2, row, row2, rfl, ⟨dx, t, hg, ht, hr1, hw1⟩, ⟨dx2, t2, hg2, ht2, hr2, hw2⟩, l1, l2, q⟩ := h
    have hu := hr.units
    refine ⟨_, (pss_cons (ps_if (pt_not (pt_truth (pe_callB (callIsiP (K := K)) rfl T.n_isinstance (by decide +kernel) (pa_cons (pv 1) (pa_cons (pe_glob (v := .ref C_Group) rfl S_Group.hm rfl) pa_nil))) (fun _ => rfl))) (pss_one ps_never) pss_nil) (pss_one (ps_ret (pe_cmpR (op_ltQ tbF hu) (pe_tup (pa_cons (pe_callB (callLenP (K := K)) rfl T.n_len (by decide +kernel) (pa_cons (pe_fldP (K := K) (pv 0) rfl) pa_nil)) (pa_cons (pe_fldP (K := K) (pv 0) rfl) pa_nil))) (pe_tup (pa_cons (pe_callB (callLenP (K := K)) rfl T.n_len (by decide +kernel) (pa_cons (pe_fldP (K := K) (pv 1) rfl) pa_nil)) (pa_cons (pe_fldP (K := K) (pv 1) rfl) pa_nil))) (by first | exact nomark _ | rfl))))), ?_⟩
    refine ⟨_, rfl, _, _, _, _, true, rfl, .own _, S_Group.ins hg2, kit_self, true, rfl, iteF ?_⟩
    refine ⟨_, rfl, g, C_Group, dx, _, _, rfl, hg, S_Group.cl, nr, row_get, Or.inl ⟨t, _, rfl, Or.inr (SqT.of ht), ?_⟩⟩
    rw [List.length_map]
    refine ⟨_, rfl, g, C_Group, dx, _, _, rfl, hg, S_Group.cl, nr, row_get, by show 2 ≤ sizeLine; decide, fun a ha => ?_⟩
    have s1 : Same H (upd H a (.tup [.int (row.length : Int), .ref t])) := Same.upd ha
    refine ⟨_, rfl, g2, C_Group, dx2, _, _, rfl, s1 _ _ hg2, S_Group.cl, nr, row_get, Or.inl ⟨t2, _, rfl, Or.inr (SqT.of (s1 _ _ ht2)), ?_⟩⟩
    rw [List.length_map]
    refine ⟨_, rfl, g2, C_Group, dx2, _, _, rfl, s1 _ _ hg2, S_Group.cl, nr, row_get, by show 2 ≤ sizeLine; decide, fun b hb => ?_⟩
    have s2 := Same.upd (o := .tup [.int (row2.length : Int), .ref t2]) hb
    refine ⟨sizeRow row, sizeRow row2, .tup (s2 _ _ upd_same) (.cons (.int _) (.cons (.tup (s2 _ _ (s1 _ _ ht)) (Dqs.strs row)) .nil)), .tup upd_same (.cons (.int _) (.cons (.tup (s2 _ _ (s1 _ _ ht2)) (Dqs.strs row2)) .nil)), ?_, ?_⟩
    · simp [PySem.W.alike, PySem.W.alikeAll, alike_strs]
    refine ⟨(by intro e; cases e), ?_, ?_⟩
    · have d1 := depthAll_of (n := 0) (ds := row.map PyData.str) fun d hd => by
        obtain ⟨x, _, rfl⟩ := List.mem_map.mp hd
        exact Nat.le_refl _
      show max 0 (max (PyData.depthAll (row.map PyData.str) + 1) 0) + 1 ≤ 60
      omega
    · rw [sizeRow_lt]
      exact q _ (s1.trans s2)
def spGStr (C : Addr) : Sp := fun vs H Q _ => ∃ g row, vs = [.ref g] ∧ GrpAt C H g row ∧ row.length ≤ 24 ∧ ∀ H', Same H H' → Q (.str (grpText row)) H'
theorem ok_gstr (F : Fun K "__str__" "Group.__str__" st_Group_str f fd) (T : Txt K mg) (S_Group : ClsI K mg "Group" C_Group) (nr : NoAttr K C_Group "row") : FnOk P w K mg base CX0 1 f fd ps_Group_str (spGStr C_Group) := by
  refine F.ok sc_Group_str (fun vs H Q E h => ?_) (fun cdv A outer s H vs Q E hr h => ?_)
  · obtain ⟨g, row, rfl, _⟩ := h
    rfl
  · obtain ⟨g, row, rfl, ⟨dx, t, hg, ht, hr1, hw1⟩, l1, q⟩ := h
    refine ⟨_, (pss_one (ps_ret (pe_bm PySem.F.plainAttrs_str PySem.F.slot_str_join PySem.F.type_str_join mt_join pe_str (pa_cons (pe_lst (pa_cons pe_str (pa_cons (pe_bm PySem.F.plainAttrs_str PySem.F.slot_str_join PySem.F.type_str_join mt_join pe_str (pa_cons (pe_fldP (K := K) (pv 0) rfl) pa_nil)) (pa_cons pe_str pa_nil)))) pa_nil)))), ?_⟩
    have ml := mid_len hw1
    refine ⟨rfl, rfl, _, rfl, g, C_Group, dx, _, _, rfl, hg, S_Group.cl, nr, row_get, _, t, row, rfl, rfl, Or.inr (SqT.of ht), ?_, ?_⟩
    · have h2 : (row.map (·.length)).sum ≤ 8 * (row.map (·.length)).length := sum_le fun t ht => by
        obtain ⟨s, hs, rfl⟩ := List.mem_map.mp ht
        exact (hw1 s hs).2.1
      rw [List.length_map] at h2
      have hb : (Str.ofString " ").length = 1 := by decide +kernel
      rw [hb]
      omega
    · refine ⟨by show 3 ≤ sizeLine; decide, fun D hD => ?_⟩
      refine ⟨_, D, [Str.ofString "{", midText row, Str.ofString "}"], rfl, rfl, Or.inl (SqL.of upd_same), ?_, ?_⟩
      · have h1 : (Str.ofString "{").length = 1 := by decide +kernel
        have h2 : (Str.ofString "}").length = 1 := by decide +kernel
        have h3 : (Str.ofString "").length = 0 := by decide +kernel
        simp only [List.map_cons, List.map_nil, List.sum_cons, List.sum_nil, List.length_cons, List.length_nil, h1, h2, h3]
        omega
      · exact q _ (Same.upd hD)
end
end
end L06

namespace L06
open PySem PySem.Spec PyProof.Rows L2 Kq StX ClX
section
variable {P : Program} {w : World} {K : PySem.W.Frag} {mg : Str → Option Value} {base : Heap}
section
variable {C_Group : Addr} {f : Addr} {fd : FuncData}
def spRead (C : Addr) : Sp := fun vs H Q _ => ∃ row, vs = [.ref C, .str (grpText row)] ∧ Ris1 row ∧ (∀ s ∈ row, IsW s) ∧ row.length ≤ 24 ∧ NewG C H row Q
theorem few_of {row : List Str} (hw : ∀ s ∈ row, IsW s) (hl : row.length ≤ 24) : Few row := ⟨hw, by omega, fun ys nd m => Nat.le_trans (nodup_le nd m) hl⟩
theorem ok_read (F : Fun K "read" "Group.read" st_Group_read f fd) (T : Txt K mg) (S_Group : ClsI K mg "Group" C_Group) (M_Group : MkR P w K mg base 2 C_Group (spGInitR C_Group)) (P_is_word : Prom P w K mg base 1 "is_word" ps_is_word spIsWord) : FnOk P w K mg base CX0 4 f fd ps_Group_read (spRead C_Group) := by
  refine F.ok sc_Group_read (fun vs H Q E h => ?_) (fun cdv A outer s H vs Q E hr h => ?_)
  · obtain ⟨row, rfl, _⟩ := h
    rfl
  · obtain ⟨row, rfl, hr1, hw1, l1, q⟩ := h
    have hu := hr.units
    have ml := mid_len hw1
    have gl := grp_len row
    have sz : (sizeLine : Nat) = 16777216 := sizeLine_eq
    refine ⟨_, (pss_cons (ps_if (PW.pt (pw_or (pt_not (pt_truth (pe_callB (callIsiP (K := K)) rfl T.n_isinstance (by decide +kernel) (pa_cons (pv 1) (pa_cons (pe_bltn (v := .ty "str") rfl T.n_str (by decide +kernel) rfl) pa_nil))) (fun _ => rfl))) (pw_or (pt_cmpR opLtP (pe_callB (callLenP (K := K)) rfl T.n_len (by decide +kernel) (pa_cons (pv 1) pa_nil)) pe_int (by first | exact nomark _ | rfl)) (pw_or (pt_cmpR (opNeP (K := K) hu) (pe_ix (ixP (K := K)) (pv 1) pe_int (fun _ _ => rfl)) pe_str (by first | exact nomark _ | rfl)) (pw_or1 (pt_cmpR (opNeP (K := K) hu) (pe_ix (ixP (K := K)) (pv 1) (pe_un opNeg pe_int) (fun _ _ => rfl)) pe_str (by first | exact nomark _ | rfl))))))) (pss_one ps_never) pss_nil) (pss_cons (ps_set (i := 2) sc_Group_read.nd rfl (by first | exact Or.inl rfl | exact Or.inr rfl) (pe_lst pa_nil)) (C8.pss_cut (ps_if (pt_cmpR opGtP (pe_callB (callLenP (K := K)) rfl T.n_len (by decide +kernel) (pa_cons (pv 1) pa_nil)) pe_int (by first | exact nomark _ | rfl)) (pss_one (ps_set (i := 2) sc_Group_read.nd rfl (by first | exact Or.inl rfl | exact Or.inr rfl) (pe_split (pe_slice (slP (K := K)) (pv 1) (po_some pe_int) (po_some (pe_un opNeg pe_int))) pe_str))) pss_nil) (pss_cons (ps_for PassesOwn.never rfl (pi_enum rfl T.n_enumerate (pa_cons (pv 2) pa_nil)) (pg_tup rfl (pgs_cons (pg_name (i := 3) sc_Group_read.nd rfl (by first | exact Or.inl rfl | exact Or.inr rfl)) (pgs_cons (pg_name (i := 4) sc_Group_read.nd rfl (by first | exact Or.inl rfl | exact Or.inr rfl)) pgs_nil))) (pss_one (ps_if (PW.pt (pw_or (pt_not (pt_truth (pe_p P_is_word hr (by decide) (pa_cons (pv 4) pa_nil)) (fun _ => rfl))) (pw_or (pt_cmpR (opEqP tbF hu) (pv 3) (pe_gc rfl T.c_MOST_WORDS) (by first | exact nomark _ | rfl)) (pw_or1 (PW.pt (pw_and (pt_cmpR opGtP (pv 3) pe_int (by first | exact nomark _ | rfl)) (pw_and1 (pt_cmpR opLeP (pv 4) (pe_ix (ixP (K := K)) (pv 2) (pe_op opSubP (pv 3) pe_int) (fun _ _ => rfl)) (by first | exact nomark _ | rfl))))))))) (pss_one ps_never) pss_nil))) (pss_one (ps_ret (pe_clsS (i := 0) (K := K) M_Group hr (by decide) (pv 2)))))))), ?_⟩
    refine ⟨_, rfl, _, _, _, _, true, rfl, .ty "str", (TyV.str _).tyX, kit_str (t := "str") (by decide), true, rfl, iteF ?_⟩
    refine ⟨_, rfl, Or.inr ⟨_, rfl, by omega, Or.inl ⟨_, _, rfl, rfl, _, rfl, ?_⟩⟩⟩
    rw [decide_eq_false (show ¬ ((grpText row).length : Int) < 2 by omega)]
    refine iteF ?_
    refine ⟨_, rfl, Or.inr (Or.inr ⟨_, 0, 123, rfl, rfl, by omega, grp_first row, ?_⟩)⟩
    refine Or.inl ⟨rfl, _, rfl, ?_⟩
    rw [show (!decide (V.str ⟨#[123]⟩ = V.str (Str.ofString "{"))) = false from by decide +kernel]
    refine iteF ?_
    refine ⟨_, rfl, _, rfl, Or.inr (Or.inr ⟨_, -1, 125, rfl, rfl, by omega, grp_last row, ?_⟩)⟩
    refine Or.inl ⟨rfl, _, rfl, ?_⟩
    rw [show (!decide (V.str ⟨#[125]⟩ = V.str (Str.ofString "}"))) = false from by decide +kernel]
    refine iteF ?_
    refine ⟨by show 0 ≤ sizeLine; decide, fun p0 hp0 => ?_⟩
    refine ⟨fun σ' H' => ∃ p, Same H H' ∧ H' p = some (.lst (row.map V.str)) ∧ σ' = [some (.ref C_Group), some (.str (grpText row)), some (.ref p), none, none], ?_, ?_⟩
    · refine ⟨_, rfl, Or.inr ⟨_, rfl, by omega, Or.inl ⟨_, _, rfl, rfl, _, rfl, ?_⟩⟩⟩
      by_cases e : row = []
      · subst e
        have := mid_nil
        rw [decide_eq_false (by omega)]
        exact iteF ⟨p0, Same.upd hp0, upd_same, rfl⟩
      · have mp := mid_pos hw1 e
        rw [decide_eq_true (by omega)]
        refine iteT ⟨_, rfl, _, rfl, _, rfl, _, rfl, Or.inr (Or.inr ⟨_, rfl, by omega, ?_⟩)⟩
        refine ⟨⟨_, rfl⟩, _, _, rfl, rfl, by decide +kernel, ?_, ?_⟩
        · rw [grp_mid]
          omega
        · rw [grp_mid]
          unfold midText
          rw [split_words e hw1]
          intro p hp
          exact ⟨p, (Same.upd hp0).trans (Same.upd hp), upd_same, rfl⟩
    rintro σ' H' ⟨p, s1, hp, rfl⟩
    refine ⟨_, rfl, p, _, rfl, SqL.of hp, ?_⟩
    refine for_it walk_enum (fun i σ' H2 => Same H H2 ∧ H2 p = some (.lst (row.map V.str)) ∧ ∃ x y, σ' = [some (.ref C_Group), some (.str (grpText row)), some (.ref p), x, y]) ⟨s1, hp, _, _, rfl⟩ (fun _ _ _ _ h => SqL.of h.2.1) ?_ ?_
    · rintro i x σ' H1 H2 hi ⟨s2, hp1, y, z, rfl⟩ ⟨t, x1, x2, rfl, ht, rfl, e1, hx⟩
      obtain rfl := Option.some.inj e1
      obtain ⟨k, hk, rfl⟩ := get_map_str hx
      rw [List.length_map] at hi
      have hW := hw1 k (List.mem_of_getElem? hk)
      have s3 := Same.upd (o := HO.tup [V.int (i : Nat), V.str k]) ht
      refine ⟨t, _, rfl, SqT.of upd_same, rfl, ?_⟩
      refine ⟨_, _, rfl, _, _, rfl, rfl, ?_⟩
      refine ⟨_, rfl, _, _, rfl, .str k, fun z e => ?_, ?_⟩
      · cases e
        have := hW.2.1
        omega
      refine ⟨_, rfl, ?_⟩
      rw [show isWV (.str k) = true from (isWB_iff k).mpr hW]
      refine iteF ?_
      refine ⟨_, rfl, Or.inl ⟨rfl, _, rfl, ?_⟩⟩
      rw [show decide (V.int (i : Nat) = V.int 24) = false from decide_eq_false (fun z => by have z' : (i : Int) = 24 := V.int.inj z; omega)]
      refine iteF ?_
      refine ⟨_, rfl, Or.inl ⟨_, _, rfl, rfl, _, rfl, ?_⟩⟩
      by_cases h0 : i = 0
      · rw [decide_eq_false (by omega)]
        refine iteF ?_
        exact ⟨s2.trans s3, s3 _ _ hp1, _, _, rfl⟩
      · rw [decide_eq_true (by omega)]
        refine iteT ?_
        obtain ⟨j, rfl⟩ : ∃ j, i = j + 1 := ⟨i - 1, by omega⟩
        have hj : j < row.length := by omega
        obtain ⟨k0, hk0⟩ : ∃ k0, row[j]? = some k0 := ⟨_, List.getElem?_eq_getElem hj⟩
        refine ⟨_, rfl, _, rfl, _, rfl, _, _, rfl, rfl, ?_⟩
        refine Or.inl ⟨p, _, _, .str k0, rfl, rfl, SqL.of (s3 _ _ hp1), ?_, ?_⟩
        · rw [show ((j + 1 : Nat) : Int) - 1 = ((j : Nat) : Int) from by omega]
          exact atI_nat (by rw [List.getElem?_map, hk0]; rfl)
        · refine Or.inr ⟨_, _, rfl, rfl, _, rfl, ?_⟩
          have lt : LtS k0 k := by
            have := List.pairwise_iff_getElem.mp hr1 j (j + 1) hj (by omega) (by omega)
            rw [List.getElem?_eq_getElem hj] at hk0
            rw [List.getElem?_eq_getElem (by omega)] at hk
            rw [Option.some.inj hk0, Option.some.inj hk] at this
            exact this
          rw [show decide (k0.cps.toList < k.cps.toList) = true from decide_eq_true lt]
          exact iteF ⟨s2.trans s3, s3 _ _ hp1, _, _, rfl⟩
    · rintro σ' H1 ⟨s2, hp1, y, z, rfl⟩
      refine ⟨rfl, _, rfl, p, _, rfl, Or.inr (SqL.of hp1), mkG (few_of hw1 l1) (q.same s2)⟩
end
end
end L06

namespace L06
open PySem PySem.Spec PyProof.Rows L2 Kq StX ClX
section
variable {P : Program} {w : World} {K : PySem.W.Frag} {mg : Str → Option Value} {base : Heap}
theorem ok_pen {f : Addr} {fd : FuncData} (F : Fun K "_law_pen" "_law_pen" st_pen f fd) (T : Txt K mg) : FnOk P w K mg base CX0 1 f fd ps_pen (spPen K) := by
  refine F.ok sc_pen (fun vs H Q E h => ?_) (fun cdv A outer s H vs Q E hr h => ?_)
  · obtain ⟨a, ns, rfl, _⟩ := h
    rfl
  · obtain ⟨a, ns, rfl, hS, hl, q⟩ := h
    refine ⟨_, (pss_one (ps_ret (pe_lst (pa_cons (pe_callTy (callListP (K := K)) rfl T.n_list (by decide +kernel) (pa_cons (pe_slice (slP (K := K)) (pv 0) po_none (po_some pe_int)) pa_nil)) (pa_cons pe_int (pa_cons pe_int pa_nil)))))), ?_⟩
    refine ⟨_, rfl, 63, rfl, Or.inl ⟨a, _, rfl, hS, fun p1 h1 => ?_⟩⟩
    refine ⟨p1, _, rfl, Or.inl (SqL.of upd_same), fun c hc => ?_⟩
    refine ⟨by show 3 ≤ sizeLine; decide, fun p hp => ?_⟩
    have e1 : cutV (ns.map V.int) none (some 63) = ns.map V.int := by
      rw [show (63 : Int) = ((63 : Nat) : Int) from rfl, cut_hi, List.take_of_length_le (by rw [List.length_map]; exact hl)]
    have s1 := Same.upd (o := HO.lst (cutV (ns.map V.int) none (some 63))) h1
    have s2 := Same.upd (o := HO.lst (cutV (ns.map V.int) none (some 63))) hc
    have s3 := Same.upd (o := HO.lst [V.ref c, V.int 0, V.int 0]) hp
    refine q _ _ _ (s1.free (s2.free hp)) (s1.free hc) ⟨ns, 0, 0, upd_same, ?_, hl, Int.le_refl _, Int.le_refl _⟩ ((s1.trans s2).trans s3)
    have e2 := s3 _ _ upd_same
    rw [e1] at e2
    rw [e1]
    exact e2
theorem ok_draw {f : Addr} {fd : FuncData} (F : Fun K "_law_draw" "_law_draw" st_draw f fd) (T : Txt K mg) : FnOk P w K mg base CX0 1 f fd ps_draw spDraw := by
  refine F.ok sc_draw (fun vs H Q E h => ?_) (fun cdv A outer s H vs Q E hr h => ?_)
  · obtain ⟨p, c, n, rest, rfl, _, _, ⟨m, rfl, _⟩, _⟩ := h
    rfl
  · obtain ⟨p, c, n, rest, rfl, ⟨ns, k, r, hp, hc, hl, hk0, hkn⟩, hn, ⟨m, rfl, hm0, hm1⟩, q⟩ := h
    have hu := hr.units
    have hcp := pen_ne hp hc
    refine ⟨_, (pss_cons (ps_if (pt_cmpR opGtP (pe_ix (ixP (K := K)) (pv 0) pe_int (fun _ _ => rfl)) pe_int (by first | exact nomark _ | rfl)) (pss_cons (ps_set (i := 2) sc_draw.nd rfl (by first | exact Or.inl rfl | exact Or.inr rfl) (pe_op op_mod (pe_callTy call_int1 rfl T.n_int (by decide +kernel) (pa_cons (pe_ix (ixP (K := K)) (pv 0) pe_int (fun _ _ => rfl)) pa_nil)) (pv 1))) (pss_cons (ps_asg (pe_op op_fdiv (pe_callTy call_int1 rfl T.n_int (by decide +kernel) (pa_cons (pe_ix (ixP (K := K)) (pv 0) pe_int (fun _ _ => rfl)) pa_nil)) (pv 1)) (pg_sub (pv 0) pe_int set_list)) (pss_one (ps_ret (pv 2))))) pss_nil) (pss_cons (ps_set (i := 3) sc_draw.nd rfl (by first | exact Or.inl rfl | exact Or.inr rfl) (pe_ix (ixP (K := K)) (pv 0) pe_int (fun _ _ => rfl))) (pss_cons (ps_asg (pe_op (opAddP (K := K)) (pv 3) pe_int) (pg_sub (pv 0) pe_int set_list)) (pss_cons (ps_set (i := 4) sc_draw.nd rfl (by first | exact Or.inl rfl | exact Or.inr rfl) (pe_op (opAddP (K := K)) (pe_op opMulP pe_int (pv 3)) pe_int)) (C8.pss_cut (ps_if (pt_cmpR (opNeP (K := K) hu) (pe_ix (ixP (K := K)) (pv 0) pe_int (fun _ _ => rfl)) (pe_lst pa_nil) (by first | exact nomark _ | rfl)) (pss_one (ps_set (i := 4) sc_draw.nd rfl (by first | exact Or.inl rfl | exact Or.inr rfl) (pe_ix (ixP (K := K)) (pe_ix (ixP (K := K)) (pv 0) pe_int (fun _ _ => rfl)) (pe_op op_mod (pe_callTy call_int1 rfl T.n_int (by decide +kernel) (pa_cons (pv 3) pa_nil)) (pe_callB (callLenP (K := K)) rfl T.n_len (by decide +kernel) (pa_cons (pe_ix (ixP (K := K)) (pv 0) pe_int (fun _ _ => rfl)) pa_nil))) (fun _ _ => rfl)))) pss_nil) (C8.pss_cut (ps_if (PW.pt (pw_and (pt_cmpR opLtP (pv 3) (pe_callB (callLenP (K := K)) rfl T.n_len (by decide +kernel) (pa_cons (pe_ix (ixP (K := K)) (pv 0) pe_int (fun _ _ => rfl)) pa_nil)) (by first | exact nomark _ | rfl)) (pw_and1 (pt_cmpR opGeP (pe_callB call_abs rfl T.n_abs (by decide +kernel) (pa_cons (pv 4) pa_nil)) (pe_op op_pow pe_int pe_int) (by first | exact nomark _ | rfl))))) (pss_cons (ps_set (i := 5) sc_draw.nd rfl (by first | exact Or.inl rfl | exact Or.inr rfl) (pe_op (opAddP (K := K)) (pe_op opMulP pe_int (pe_op opSubP (pe_callB call_abs rfl T.n_abs (by decide +kernel) (pa_cons (pv 4) pa_nil)) (pe_op op_pow pe_int pe_int))) (pe_callTy call_int1 rfl T.n_int (by decide +kernel) (pa_cons (pe_cmpR opLtP (pv 4) pe_int (by first | exact nomark _ | rfl)) pa_nil)))) (pss_cons (ps_asg (pe_op op_fdiv (pe_callTy call_int1 rfl T.n_int (by decide +kernel) (pa_cons (pv 5) pa_nil)) (pv 1)) (pg_sub (pv 0) pe_int set_list)) (pss_one (ps_ret (pe_op op_mod (pe_callTy call_int1 rfl T.n_int (by decide +kernel) (pa_cons (pv 5) pa_nil)) (pv 1)))))) pss_nil) (pss_cons (ps_set (i := 6) sc_draw.nd rfl (by first | exact Or.inl rfl | exact Or.inr rfl) (pe_op op_mod (pe_callTy call_int1 rfl T.n_int (by decide +kernel) (pa_cons (pe_op op_pow (pe_op (opAddP (K := K)) (pe_op (opAddP (K := K)) (pe_op op_mod (pe_callTy call_int1 rfl T.n_int (by decide +kernel) (pa_cons (pv 4) pa_nil)) pe_int) (pe_op opMulP pe_int (pv 3))) pe_int) pe_int) pa_nil)) pe_int)) (pss_cons (ps_set (i := 6) sc_draw.nd rfl (by first | exact Or.inl rfl | exact Or.inr rfl) (pe_op op_mod (pe_callTy call_int1 rfl T.n_int (by decide +kernel) (pa_cons (pe_op op_pow (pe_op (opAddP (K := K)) (pe_op (opAddP (K := K)) (pe_op opMulP (pv 6) (pe_op (opAddP (K := K)) (pe_op opMulP pe_int (pv 3)) pe_int)) (pe_op opMulP (pe_op opMulP pe_int (pv 3)) (pv 3))) pe_int) pe_int) pa_nil)) pe_int)) (pss_one (ps_ret (pe_op op_mod (pe_callTy call_int1 rfl T.n_int (by decide +kernel) (pa_cons (pe_op op_fdiv (pv 6) pe_int) pa_nil)) (pv 1)))))))))))), ?_⟩
    -- while a great number lasts
    refine ⟨_, rfl, Or.inl ⟨p, _, 2, _, rfl, rfl, SqL.of hp, rfl, Or.inl ⟨r, 0, rfl, rfl, _, rfl, ?_⟩⟩⟩
    refine ite2 (fun _ => ?_) (fun _ => ?_)
    · refine ⟨_, rfl, Or.inl ⟨p, _, 2, _, rfl, rfl, SqL.of hp, rfl, Or.inl ⟨_, rfl, _, rfl, _, _, rfl, rfl, hm0, ?_⟩⟩⟩
      refine ⟨_, rfl, Or.inl ⟨p, _, 2, _, rfl, rfl, SqL.of hp, rfl, Or.inl ⟨_, rfl, _, rfl, _, _, rfl, rfl, ⟨hm0, hm1⟩, ?_⟩⟩⟩
      refine ⟨_, rfl, p, _, 2, 2, rfl, rfl, hp, rfl, ?_⟩
      refine ⟨_, rfl, ?_⟩
      exact q _ _ (pen_set hc hcp hl hk0 (by omega)) Same.updP ⟨m, _, rfl, rfl, Int.emod_nonneg _ (by omega), Int.emod_lt_of_pos _ hm0⟩
    -- the index goes on
    refine ⟨_, rfl, Or.inl ⟨p, _, 1, _, rfl, rfl, SqL.of hp, rfl, ?_⟩⟩
    refine ⟨_, rfl, Or.inl ⟨_, _, rfl, rfl, ?_⟩⟩
    refine ⟨_, rfl, p, _, 1, 1, rfl, rfl, hp, rfl, ?_⟩
    -- the cell
    refine ⟨_, rfl, Or.inl ⟨_, _, rfl, rfl, cmul_l (by decide) (by decide), Or.inl ⟨_, _, rfl, rfl, ?_⟩⟩⟩
    have s1 : Same (Im H p) (Im (upd H p (.lst (List.set [V.ref c, V.int k, V.int r] 1 (.int (k + 1))))) p) := Same.updP
    have hp1 : (upd H p (.lst (List.set [V.ref c, V.int k, V.int r] 1 (.int (k + 1))))) p = some (.lst [V.ref c, V.int (k + 1), V.int r]) := upd_same
    have hc1 : (upd H p (.lst (List.set [V.ref c, V.int k, V.int r] 1 (.int (k + 1))))) c = some (.lst (ns.map V.int)) := by rw [upd_ne hcp]; exact hc
    generalize (upd H p (.lst (List.set [V.ref c, V.int k, V.int r] 1 (.int (k + 1))))) = H1 at s1 hp1 hc1 ⊢
    refine ⟨fun σ' H' => ∃ z : Int, Same H1 H' ∧ σ' = [some (.ref p), some (.int m), none, some (.int k), some (.int z), none, none], ?_, ?_⟩
    · refine ⟨_, rfl, Or.inl ⟨p, _, 0, _, rfl, rfl, SqL.of hp1, rfl, Nat.zero_le _, fun l hl => ?_⟩⟩
      have s2 := Same.upd (o := HO.lst []) hl
      refine Or.inr ⟨.list (ns.map PyData.int), .list [], Dp.lst (SqL.of (s2 _ _ hc1)) (dp_ints ns), Dp.lst (SqL.of upd_same) .nil, shaped_ints ns, rfl, _, rfl, ?_⟩
      rw [eqv_nil]
      by_cases hns : ns = []
      · subst hns
        exact iteF ⟨_, s2, rfl⟩
      · rw [show ns.isEmpty = false from by cases ns with | nil => exact absurd rfl hns | cons => rfl]
        refine iteT ?_
        obtain ⟨z, hz⟩ := at_mod hns k
        refine ⟨_, rfl, Or.inl ⟨p, _, 0, _, rfl, rfl, SqL.of (s2 _ _ hp1), rfl, ?_⟩⟩
        refine ⟨_, rfl, Or.inl ⟨_, rfl, ?_⟩⟩
        refine ⟨_, rfl, Or.inl ⟨p, _, 0, _, rfl, rfl, SqL.of (s2 _ _ hp1), rfl, Or.inl ⟨c, _, rfl, Or.inl (SqL.of (s2 _ _ hc1)), ?_⟩⟩⟩
        refine ⟨_, _, rfl, rfl, ?_, ?_⟩
        · rw [len_map_int]
          have := List.length_pos_iff.mpr hns
          omega
        refine Or.inl ⟨c, _, _, _, rfl, rfl, SqL.of (s2 _ _ hc1), (by rw [len_map_int]; exact hz), ?_⟩
        exact ⟨z, s2, rfl⟩
    rintro σ' H' ⟨z, s2, rfl⟩
    have hp2 := s2 _ _ hp1
    have hc2 := s2 _ _ hc1
    have pen2 : ∀ {H3 : Hp}, Same H1 H3 → PenAt H3 p c (n + 1) := fun s3 => ⟨ns, k + 1, r, s3 _ _ hp1, s3 _ _ hc1, hl, by omega, by omega⟩
    refine ⟨fun σ' H3 => Same H1 H3 ∧ σ' = [some (.ref p), some (.int m), none, some (.int k), some (.int z), none, none], ?_, ?_⟩
    · have cp : CPow 10 18 := ⟨by decide, by decide, by decide⟩
      refine ⟨_, rfl, _, rfl, Or.inl ⟨p, _, 0, _, rfl, rfl, SqL.of hp2, rfl, Or.inl ⟨c, _, rfl, Or.inl (SqL.of hc2), Or.inl ⟨_, _, rfl, rfl, _, rfl, ?_⟩⟩⟩⟩
      refine ite2 (fun _ => ?_) (fun _ => ?_)
      · refine ⟨_, rfl, _, rfl, _, _, rfl, rfl, cp, Or.inl ⟨_, _, rfl, rfl, _, rfl, ?_⟩⟩
        refine ite2 (fun _ => ?_) (fun _ => ?_)
        · refine ⟨_, rfl, _, rfl, _, _, rfl, rfl, cp, _, _, rfl, rfl, Or.inl ⟨_, _, rfl, rfl, cmul_l (by decide) (by decide), _, rfl, Or.inl ⟨_, _, rfl, rfl, Or.inr ⟨_, rfl, Or.inl ⟨_, _, rfl, rfl, ?_⟩⟩⟩⟩⟩
          generalize 2 * ((if z < 0 then -z else z) - 10 ^ Int.toNat 18) + (if (decide (z < 0)) = true then 1 else 0) = g
          refine ⟨_, rfl, Or.inl ⟨_, rfl, _, rfl, _, _, rfl, rfl, ⟨hm0, hm1⟩, ?_⟩⟩
          refine ⟨_, rfl, p, _, 2, 2, rfl, rfl, hp2, rfl, ?_⟩
          refine ⟨_, rfl, Or.inl ⟨_, rfl, _, rfl, _, _, rfl, rfl, hm0, ?_⟩⟩
          exact q _ _ (pen_set hc2 hcp hl (by omega) (by omega)) ((s1.trans (sameIm s2)).trans Same.updP) ⟨m, _, rfl, rfl, Int.emod_nonneg _ (by omega), Int.emod_lt_of_pos _ hm0⟩
        · exact ⟨s2, rfl⟩
      · exact iteF ⟨s2, rfl⟩
    rintro σ' H3 ⟨s3, rfl⟩
    have hM : ∀ {a b : Int}, 0 < b → 0 ≤ a % b ∧ a % b < b := fun h => ⟨Int.emod_nonneg _ (by omega), Int.emod_lt_of_pos _ h⟩
    refine ⟨_, rfl, Or.inl ⟨_, rfl, _, _, rfl, rfl, (by show (0 : Int) < _; decide), ?_⟩⟩
    refine ⟨_, rfl, Or.inl ⟨_, _, rfl, rfl, cmul_l (by decide) (by decide), ?_⟩⟩
    refine Or.inl ⟨_, _, rfl, rfl, Or.inl ⟨_, _, rfl, rfl, ?_⟩⟩
    refine ⟨_, _, rfl, rfl, ⟨by decide, by decide, ?_⟩, Or.inl ⟨_, rfl, _, _, rfl, rfl, (by show (0 : Int) < _; decide), ?_⟩⟩
    · have h1 := hM (a := z) (b := 2147483543) (by decide)
      exact mix1 hk0 (by omega) _ _ _ h1.1 (by omega) (by decide) (by decide) (by decide) (by decide)
    have hx1 := hM (a := (z % 2147483543 + 47969 * k + 447) ^ Int.toNat 5) (b := 2147483399) (by decide)
    refine ⟨_, rfl, _, rfl, Or.inl ⟨_, _, rfl, rfl, cmul_l (by decide) (by decide), Or.inl ⟨_, _, rfl, rfl, Or.inl ⟨_, _, rfl, rfl, cmul_l (by omega) (by omega), ?_⟩⟩⟩⟩
    refine ⟨_, rfl, Or.inl ⟨_, _, rfl, rfl, cmul_l (by decide) (by decide), ?_⟩⟩
    refine ⟨_, rfl, Or.inl ⟨_, _, rfl, rfl, cmul_r (by omega) (by omega), ?_⟩⟩
    refine Or.inl ⟨_, _, rfl, rfl, Or.inl ⟨_, _, rfl, rfl, ?_⟩⟩
    refine ⟨_, _, rfl, rfl, ⟨by decide, by decide, ?_⟩, Or.inl ⟨_, rfl, _, _, rfl, rfl, (by show (0 : Int) < _; decide), ?_⟩⟩
    · exact mix2 hk0 (by omega) _ _ _ _ 0 hx1.1 (by omega) (by decide) (by decide) (by decide) (by decide) (by decide) (by decide) (by decide) (by decide)
    refine ⟨_, rfl, _, _, rfl, rfl, ⟨by decide, by decide⟩, Or.inl ⟨_, rfl, _, rfl, _, _, rfl, rfl, hm0, ?_⟩⟩
    exact q _ _ (pen2 s3) (s1.trans (sameIm s3)) ⟨m, _, rfl, rfl, Int.emod_nonneg _ (by omega), Int.emod_lt_of_pos _ hm0⟩
theorem ok_pick {f : Addr} {fd : FuncData} (F : Fun K "_law_pick" "_law_pick" st_pick f fd) (T : Txt K mg) (P_draw : Prom P w K mg base 1 "_law_draw" ps_draw spDraw) : FnOk P w K mg base CX0 2 f fd ps_pick spPick := by
  refine F.ok sc_pick (fun vs H Q E h => ?_) (fun cdv A outer s H vs Q E hr h => ?_)
  · obtain ⟨p, c, n, rest, rfl, _, _, ⟨x, rfl, _⟩, _⟩ := h
    rfl
  · obtain ⟨p, c, n, rest, rfl, hP, hn, ⟨x, rfl, hx⟩, q⟩ := h
    refine ⟨_, (pss_one (ps_ret (pe_ix (ixP (K := K)) (pv 1) (pe_p P_draw hr (by decide) (pa_cons (pv 0) (pa_cons (pe_callB (callLenP (K := K)) rfl T.n_len (by decide +kernel) (pa_cons (pv 1) pa_nil)) pa_nil))) (fun _ _ => rfl)))), ?_⟩
    rcases hx with ⟨a, xs, rfl, ha, hne, hl⟩ | ⟨z, rfl, h0, hl⟩
    · have hlen : 0 < xs.length := List.length_pos_iff.mpr hne
      have hsq : ∀ {h : Hp}, Same (Im H p) h → (SqL K h a xs ∨ SqT K h a xs) := fun sm => ha.elim (fun e => Or.inl (SqL.of (sm _ _ e))) (fun e => Or.inr (SqT.of (sm _ _ e)))
      refine ⟨_, rfl, _, rfl, _, rfl, Or.inl ⟨a, xs, rfl, hsq Im_sub, ?_⟩⟩
      refine ⟨p, c, n, _, rfl, hP, hn, ⟨_, rfl, by omega, by omega⟩, ?_⟩
      rintro v H' hP' hs ⟨m, r, e1, rfl, hr0, hr1⟩
      cases e1
      obtain ⟨j, rfl⟩ := Int.eq_ofNat_of_zero_le hr0
      have hj : j < xs.length := by omega
      have hat : atI xs (j : Int) = some xs[j] := atI_nat (List.getElem?_eq_getElem hj)
      have fin : Q xs[j] H' := q _ _ hP' hs ⟨_, rfl, Or.inl ⟨a, xs, rfl, ha.elim (fun e => Or.inl (hs _ _ e)) (fun e => Or.inr (hs _ _ e)), List.getElem_mem hj⟩⟩
      rcases ha with e | e
      · exact Or.inl ⟨a, xs, _, _, rfl, rfl, SqL.of (Im_sub _ _ (hs _ _ e)), hat, fin⟩
      · exact Or.inr (Or.inl ⟨a, xs, _, _, rfl, rfl, SqT.of (Im_sub _ _ (hs _ _ e)), hat, fin⟩)
    · refine ⟨_, rfl, _, rfl, _, rfl, Or.inr ⟨z, rfl, Nat.le_trans hl (by decide), ?_⟩⟩
      refine ⟨p, c, n, _, rfl, hP, hn, ⟨_, rfl, by omega, by omega⟩, ?_⟩
      rintro v H' hP' hs ⟨m, r, e1, rfl, hr0, hr1⟩
      cases e1
      obtain ⟨j, rfl⟩ := Int.eq_ofNat_of_zero_le hr0
      have hj : j < z.cps.toList.length := by
        rw [Array.length_toList]
        show j < z.length
        omega
      refine Or.inr (Or.inr ⟨z, _, _, rfl, rfl, Nat.le_trans hl (by decide), atI_nat (List.getElem?_eq_getElem hj), ?_⟩)
      exact q _ _ hP' hs ⟨_, rfl, Or.inr ⟨z, _, rfl, List.getElem_mem hj, rfl⟩⟩
theorem ok_word {f : Addr} {fd : FuncData} (F : Fun K "_law_word" "_law_word" st_word f fd) (T : Txt K mg) (P_pick : Prom P w K mg base 2 "_law_pick" ps_pick spPick) : FnOk P w K mg base CX0 3 f fd ps_word spWord := by
  refine F.ok sc_word (fun vs H Q E h => ?_) (fun cdv A outer s H vs Q E hr h => ?_)
  · obtain ⟨p, c, n, rest, rfl, _, _, h0, _⟩ := h
    rw [show rest = [] from h0]
    rfl
  · obtain ⟨p, c, n, rest, rfl, hP, hn, h0, q⟩ := h
    obtain rfl : rest = [] := h0
    refine ⟨_, (pss_cons (ps_set (i := 1) sc_word.nd rfl (by first | exact Or.inl rfl | exact Or.inr rfl) (pe_p P_pick hr (by decide) (pa_cons (pv 0) (pa_cons (pe_lst (pa_cons pe_str (pa_cons pe_str (pa_cons pe_str (pa_cons pe_str pa_nil))))) pa_nil)))) (pss_one (ps_ret (pe_bm PySem.F.plainAttrs_str PySem.F.slot_str_join PySem.F.type_str_join mt_join pe_str (pa_cons (pe_lc (own := [("_law_spot", 2)]) rfl sc_word.nd (pi_range1 rfl T.n_range (pa_cons (pe_p P_pick hr (by decide) (pa_cons (pv 0) (pa_cons (pe_lst (pa_cons pe_int (pa_cons pe_int (pa_cons pe_int (pa_cons pe_int (pa_cons pe_int (pa_cons pe_int pa_nil))))))) pa_nil))) pa_nil)) (blkOk_by (N := N_word) (sc := defScope st_word) (by decide +kernel)) (fun _ _ _ _ _ => (pg_name (i := 2) sc_word.nd rfl (by first | exact Or.inl rfl | exact Or.inr rfl))) (fun _ _ _ _ _ => pts_nil) (fun _ _ _ _ _ => (pe_p P_pick hr (by decide) (pa_cons (pv 0) (pa_cons (pv 1) pa_nil))))) pa_nil))))), ?_⟩
    refine ⟨_, rfl, by show 4 ≤ sizeLine; decide, fun l hl => ?_⟩
    refine ⟨p, c, n, _, rfl, hP.upd hl, by omega, ⟨_, rfl, Or.inl ⟨l, _, rfl, Or.inl (Im_upd (hP.ne hl)), by simp, by show 4 ≤ 100000; decide⟩⟩, ?_⟩
    rintro v H1 hP1 hs1 ⟨x, ex, hi⟩
    cases ex
    have hv := hi.lst (hs1 _ _ (Im_upd (hP.ne hl)))
    obtain ⟨z, rfl, hz⟩ : ∃ z, v = .str z ∧ Lets z := by
      simp only [List.mem_cons, List.not_mem_nil, or_false] at hv
      rcases hv with rfl | rfl | rfl | rfl
      · exact ⟨_, rfl, lets_of (by decide +kernel)⟩
      · exact ⟨_, rfl, lets_of (by decide +kernel)⟩
      · exact ⟨_, rfl, lets_of (by decide +kernel)⟩
      · exact ⟨_, rfl, lets_of (by decide +kernel)⟩
    have hs1' : Same (Im H p) (Im H1 p) := (Same.updI hl).trans hs1
    refine ⟨rfl, _, rfl, by show 6 ≤ sizeLine; decide, fun l2 hl2 => ?_⟩
    refine ⟨p, c, n + 1, _, rfl, hP1.upd hl2, by omega, ⟨_, rfl, Or.inl ⟨l2, _, rfl, Or.inl (Im_upd (hP1.ne hl2)), by simp, by show 6 ≤ 100000; decide⟩⟩, ?_⟩
    rintro v H2 hP2 hs2 ⟨x, ex, hi⟩
    cases ex
    have hv := hi.lst (hs2 _ _ (Im_upd (hP1.ne hl2)))
    obtain ⟨j, rfl, hj1, hj8⟩ : ∃ j : Nat, v = .int (j : Int) ∧ 1 ≤ j ∧ j ≤ 8 := by
      simp only [List.mem_cons, List.not_mem_nil, or_false] at hv
      rcases hv with rfl | rfl | rfl | rfl | rfl | rfl
      · exact ⟨1, rfl, by omega, by omega⟩
      · exact ⟨1, rfl, by omega, by omega⟩
      · exact ⟨2, rfl, by omega, by omega⟩
      · exact ⟨3, rfl, by omega, by omega⟩
      · exact ⟨5, rfl, by omega, by omega⟩
      · exact ⟨8, rfl, by omega, by omega⟩
    have hs2' : Same (Im H p) (Im H2 p) := hs1'.trans ((Same.updI hl2).trans hs2)
    refine ⟨_, rfl, by omega, by omega, fun D hD => ?_⟩
    rw [Int.toNat_natCast]
    have nD : D ≠ p := hP2.ne hD
    have nC : D ≠ c := hP2.neC hD
    refine lc_range (fun i H' => PenAt H' p c (n + 2 + i) ∧ Same (Im H2 p) (Im H' p) ∧ ∃ cs : List Nat, cs.length = i ∧ H' D = some (.lst (cs.map fun c => .str ⟨#[c]⟩)) ∧ ∀ c ∈ cs, 97 ≤ c ∧ c ≤ 122)
      ⟨hP2.upd hD, Same.updI hD, [], rfl, upd_same, fun _ h => nomatch h⟩ ?_ ?_
    · rintro i H' hi ⟨hP', hs', cs, hcl, hcD, hcs⟩
      refine ⟨rfl, tYes_go ?_⟩
      refine ⟨_, rfl, _, rfl, p, c, n + 2 + i, _, rfl, hP', by omega, ⟨_, rfl, Or.inr ⟨z, rfl, hz.1, hz.2.1⟩⟩, ?_⟩
      rintro v H3 hP3 hs3 ⟨x, ex, hi3⟩
      cases ex
      obtain ⟨cc, hc, rfl⟩ := hi3.str
      have hD3 : H3 D = _ := same_at hs3 hcD nD
      refine ⟨_, hD3, by rw [List.length_map, hcl]; exact Nat.lt_of_lt_of_le hi (Nat.le_trans hj8 (by decide)), ?_, ?_, cs ++ [cc], by simp [hcl], by rw [upd_same, List.map_append]; rfl, ?_⟩
      · exact (show n + 2 + i + 1 = n + 2 + (i + 1) by omega) ▸ hP3.put nD nC
      · exact samePut (hs'.trans hs3) hD
      · intro x hx
        rcases List.mem_append.mp hx with hx | hx
        · exact hcs x hx
        · rw [List.mem_singleton] at hx
          rw [hx]
          exact hz.2.2 _ hc
    · rintro H' ⟨hP', hs', cs, hcl, hcD, hcs⟩
      refine ⟨_, D, cs.map fun c => ⟨#[c]⟩, rfl, rfl, Or.inl (SqL.of (by rw [List.map_map]; exact hcD)), ?_, ?_⟩
      · have e1 : ((cs.map fun c => (⟨#[c]⟩ : Str)).map (·.length)).sum = cs.length := by
          rw [List.map_map]
          clear hcD hcs hcl
          induction cs with
          | nil => rfl
          | cons a b ih => rw [List.map_cons, List.sum_cons, ih]; show 1 + b.length = b.length + 1; omega
        rw [e1, List.length_map, show (Str.ofString "").length = 0 from by decide +kernel]
        omega
      · rw [join_signs]
        exact q _ _ (hP'.mono (by omega)) (hs2'.trans hs') ⟨_, rfl, isW_signs (by omega) (by omega) hcs⟩
theorem ok_words {f : Addr} {fd : FuncData} (F : Fun K "_law_words" "_law_words" st_words f fd) (T : Txt K mg) (P_word : Prom P w K mg base 3 "_law_word" ps_word spWord) : FnOk P w K mg base CX0 4 f fd ps_words spWords := by
  refine F.ok sc_words (fun vs H Q E h => ?_) (fun cdv A outer s H vs Q E hr h => ?_)
  · obtain ⟨p, c, n, rest, rfl, _, _, ⟨m, rfl, _⟩, _⟩ := h
    rfl
  · obtain ⟨p, c, n, rest, rfl, hP, hn, ⟨m, rfl, hm0, hm1⟩, q⟩ := h
    refine ⟨_, (pss_cons (ps_setLc (i := 2) (own := [("_law_sign", 3)]) rfl sc_words.nd rfl rfl (sw_true rfl rfl rfl (by decide +kernel)) (pi_str pe_str) (blkOk_by (N := N_words) (sc := defScope st_words) (by decide +kernel)) (fun _ _ _ _ _ => (pg_name (i := 3) sc_words.nd rfl (by first | exact Or.inl rfl | exact Or.inr rfl))) (fun _ _ _ _ _ => pts_nil) (fun _ _ _ _ _ => (pv 3))) (pss_cons (ps_set (i := 4) sc_words.nd rfl (by first | exact Or.inl rfl | exact Or.inr rfl) (pe_op (opAddP (K := K)) (pv 2) (pe_lc (own := [("_law_sign", 3)]) rfl sc_words.nd (pi_listP (K := K) (pv 2)) (blkOk_by (N := N_words) (sc := defScope st_words) (by decide +kernel)) (fun _ _ _ _ _ => (pg_name (i := 3) sc_words.nd rfl (by first | exact Or.inl rfl | exact Or.inr rfl))) (fun _ _ _ _ _ => pts_nil) (fun _ _ _ _ _ => (pe_op (opAddP (K := K)) pe_str (pv 3)))))) (pss_cons (ps_set (i := 5) sc_words.nd rfl (by first | exact Or.inl rfl | exact Or.inr rfl) (pe_lst pa_nil)) (pss_cons (ps_for PassesOwn.never rfl (pi_range1 rfl T.n_range (pa_cons (pv 1) pa_nil)) (pg_name (i := 6) sc_words.nd rfl (by first | exact Or.inl rfl | exact Or.inr rfl)) (pss_cons (ps_set (i := 7) sc_words.nd rfl (by first | exact Or.inl rfl | exact Or.inr rfl) (pe_p P_word hr (by decide) (pa_cons (pv 0) pa_nil))) (C8.pss_cut (ps_if (pt_cmpR (opInP (K := K)) (pv 7) (pv 5) (by first | exact nomark _ | rfl)) (pss_one (ps_set (i := 7) sc_words.nd rfl (by first | exact Or.inl rfl | exact Or.inr rfl) (pe_ix (ixP (K := K)) (pe_lc (own := [("_law_each", 8)]) rfl sc_words.nd (pi_listP (K := K) (pv 4)) (blkOk_by (N := N_words) (sc := defScope st_words) (by decide +kernel)) (fun _ _ _ _ _ => (pg_name (i := 8) sc_words.nd rfl (by first | exact Or.inl rfl | exact Or.inr rfl))) (fun _ _ _ _ _ => (pts_one (pt_cmpR (opNinP (K := K)) (pv 8) (pv 5) (by first | exact nomark _ | rfl)))) (fun _ _ _ _ _ => (pv 8))) pe_int (fun _ _ => rfl)))) pss_nil) (pss_one (ps_expr (pe_bm PySem.F.plainAttrs_list PySem.F.slot_list_append PySem.F.type_list_append mt_append (pv 5) (pa_cons (pv 7) pa_nil))))))) (pss_one (ps_ret (pv 5))))))), ?_⟩
    generalize hz : (Str.ofString "abcdefghijklmnopqrstuvwxyz" : Str) = z
    have hzl : z.cps.size = 26 := by rw [← hz]; decide +kernel
    refine ⟨z, by rw [← hz], fun L hL => ?_⟩
    have nL := hP.ne hL
    refine lc_it walk_str (fun i H' => Same H H' ∧ H' L = some (.lst (((signsOf z).take i).map V.str))) ⟨Same.upd hL, upd_same⟩ (fun _ _ _ _ => trivial) ?_ ?_
    · rintro i x H1 H' hi ⟨s1, h1⟩ ⟨rfl, cc, hc, rfl⟩
      refine ⟨rfl, tYes_go ?_⟩
      refine ⟨_, rfl, _, h1, by rw [List.length_map, List.length_take, signsOf_len]; exact Nat.lt_of_le_of_lt (Nat.min_le_right ..) (by rw [hzl]; decide), sput s1 hL, ?_⟩
      rw [upd_same, take_succ' (signsOf_get hc), List.map_append]
      rfl
    rintro H1 ⟨s1, h1⟩
    rw [← signsOf_len, take_all] at h1
    -- the spare words
    refine ⟨_, rfl, _, rfl, L, rfl, ⟨_, SqL.of h1⟩, fun B hB => ?_⟩
    generalize hq : (Str.ofString "q" : Str) = qq
    refine lc_it walk_list (fun i H' => Same H1 H' ∧ H' B = some (.lst ((((signsOf z).map fun s => qq ++ s).take i).map V.str))) ⟨Same.upd hB, upd_same⟩ (fun _ _ _ h => SqL.of (h.1 _ _ h1)) ?_ ?_
    · rintro i x H2 H' hi ⟨s2, h2⟩ ⟨rfl, hx⟩
      obtain ⟨y, hy, rfl⟩ := get_map_str hx
      have hyl : y.length = 1 := by
        have := List.mem_of_getElem? hy
        unfold signsOf at this
        obtain ⟨c', _, rfl⟩ := List.mem_map.mp this
        rfl
      refine ⟨rfl, tYes_go ?_⟩
      refine ⟨_, rfl, Or.inr (Or.inl ⟨qq, y, by rw [← hq], rfl, by rw [hyl, ← hq]; decide, ?_⟩)⟩
      refine ⟨_, h2, by rw [List.length_map, List.length_take, List.length_map, signsOf_len, hzl]; exact Nat.lt_of_le_of_lt (Nat.min_le_right ..) (by decide), sput s2 hB, ?_⟩
      rw [upd_same, take_succ' (x := qq ++ y) (by rw [List.getElem?_map, hy]; rfl), List.map_append]
      rfl
    rintro H2 ⟨s2, h2⟩
    rw [List.length_map, show (signsOf z).length = ((signsOf z).map fun s => qq ++ s).length from (List.length_map _).symm, take_all] at h2
    have hsp : spareOf z qq = spareOf (Str.ofString "abcdefghijklmnopqrstuvwxyz") (Str.ofString "q") := by rw [hz, hq]
    have spn : (spareOf z qq).Nodup := hsp ▸ spare_nodup
    have spl : (spareOf z qq).length = 52 := hsp ▸ spare_len
    have spw : ∀ s ∈ spareOf z qq, IsW s := hsp ▸ spare_isW
    refine Or.inr (Or.inr (Or.inl ⟨L, B, _, _, rfl, rfl, s2 _ _ h1, h2, by rw [List.length_map, List.length_map, List.length_map, signsOf_len, hzl]; decide, fun S hS => ?_⟩))
    rw [map_strs]
    have e : signsOf z ++ (signsOf z).map (fun s => qq ++ s) = spareOf z qq := rfl
    rw [e]
    have s3 : Same H (upd H2 S (.lst ((spareOf z qq).map V.str))) := (s1.trans s2).trans (Same.upd hS)
    have h3 : (upd H2 S (.lst ((spareOf z qq).map V.str))) S = some (.lst ((spareOf z qq).map V.str)) := upd_same
    have nS : S ≠ p := (hP.same (s1.trans s2)).ne hS
    generalize upd H2 S (.lst ((spareOf z qq).map V.str)) = H3 at s3 h3 ⊢
    refine ⟨Nat.zero_le _, fun F hF => ?_⟩
    have hP3 := hP.same s3
    have nF := hP3.ne hF
    have nFC := hP3.neC hF
    have nSF : S ≠ F := ne_of_none h3 hF
    obtain ⟨M, rfl⟩ := Int.eq_ofNat_of_zero_le hm0
    refine ⟨_, rfl, _, rfl, by omega, by omega, ?_⟩
    rw [Int.toNat_natCast]
    refine for_range (fun i σ' H' => PenAt H' p c (n + 10 * i) ∧ Same (Im H3 p) (Im H' p) ∧ (∃ ws : List Str, ws.length = i ∧ H' F = some (.lst (ws.map V.str)) ∧ ws.Nodup ∧ ∀ s ∈ ws, IsW s) ∧
      ∃ x3 x6 x7 x8, σ' = [some (.ref p), some (.int M), some (.ref L), x3, some (.ref S), some (.ref F), x6, x7, x8])
      ⟨hP3.upd hF, Same.updI hF, ⟨[], rfl, upd_same, List.nodup_nil, fun _ h => nomatch h⟩, _, _, _, _, rfl⟩ ?_ ?_
    · rintro i σ' H4 hi ⟨hP4, s4, ⟨ws, hwl, hwF, hwn, hww⟩, x3, x6, x7, x8, rfl⟩
      refine ⟨_, rfl, p, c, n + 10 * i, [], rfl, hP4, by omega, rfl, ?_⟩
      rintro v H5 hP5 s5 ⟨u, rfl, hu⟩
      have hF5 := same_at s5 hwF nF
      have s35 := s4.trans s5
      refine ⟨fun σ5 H6 => Same H5 H6 ∧ ∃ u' x8', u' ∉ ws ∧ IsW u' ∧ σ5 = [some (.ref p), some (.int M), some (.ref L), x3, some (.ref S), some (.ref F), some (.int (0 + i)), some (.str u'), x8'], ?_, ?_⟩
      · refine ⟨_, rfl, _, rfl, Or.inl ⟨F, _, rfl, Or.inl (SqL.of hF5), rfl, Kq.flat_strs _, _, rfl, ?_⟩⟩
        refine ite2 (fun hc => ?_) (fun hc => ?_)
        · have hS5 := same_at s35 h3 nS
          refine ⟨_, rfl, S, rfl, ⟨_, SqL.of hS5⟩, fun D hD => ?_⟩
          refine lc_it walk_list (fun j H' => Same H5 H' ∧ H' D = some (.lst ((((spareOf z qq).take j).filter fun x => !decide (x ∈ ws)).map V.str))) ⟨Same.upd hD, upd_same⟩ (fun _ _ _ h => SqL.of (h.1 _ _ hS5)) ?_ ?_
          · rintro j x H6 H' hj ⟨s6, h6⟩ ⟨rfl, hx⟩
            obtain ⟨y, hy, rfl⟩ := get_map_str hx
            refine ⟨rfl, ?_⟩
            refine ⟨_, rfl, _, rfl, Or.inl ⟨F, _, rfl, Or.inl (SqL.of (s6 _ _ hF5)), rfl, Kq.flat_strs _, _, rfl, ?_⟩⟩
            refine ite2 (fun hy2 => ?_) (fun hy2 => ?_)
            · have hy3 : y ∉ ws := by simpa [inV_strs] using hy2
              refine ⟨_, rfl, _, h6, ?_, sput s6 hD, ?_⟩
              · rw [List.length_map]
                exact Nat.lt_of_le_of_lt (Nat.le_trans (List.length_filter_le ..) (by rw [List.length_take, spl]; exact Nat.min_le_right ..)) (by decide)
              · rw [upd_same, take_succ' hy, List.filter_append]
                simp [hy3]
            · have hy3 : y ∈ ws := by simpa [inV_strs] using hy2
              refine ⟨s6, ?_⟩
              rw [h6, take_succ' hy, List.filter_append]
              simp [hy3]
          · rintro H6 ⟨s6, h6⟩
            rw [List.length_map, take_all] at h6
            obtain ⟨y, hy, hym⟩ := at0 (spare_left (ws := ws) spn (by rw [spl]; omega))
            have hym' := List.mem_filter.mp hym
            refine Or.inl ⟨D, _, _, _, rfl, rfl, SqL.of h6, atI_nat (v := .str y) (by rw [List.getElem?_map, hy]; rfl), ?_⟩
            exact ⟨s6, y, _, by simpa using hym'.2, spw y hym'.1, rfl⟩
        · have hmem : u ∉ ws := by simpa [inV_strs] using hc
          exact ⟨fun _ _ e => e, u, _, hmem, hu, rfl⟩
      rintro σ5 H6 ⟨s6, u', x8', hun, huw, rfl⟩
      refine ⟨_, rfl, Or.inl ⟨rfl, _, SqL.of (s6 _ _ hF5)⟩, _, rfl, F, _, _, rfl, rfl, s6 _ _ hF5, by rw [List.length_map]; exact Nat.lt_of_le_of_lt (show ws.length ≤ 52 by omega) (by decide), ?_⟩
      refine ⟨?_, ?_, ⟨ws ++ [u'], by simp [hwl], by rw [upd_same, List.map_append]; rfl, nodup_snoc hwn hun, ?_⟩, _, _, _, _, rfl⟩
      · exact ((hP5.mono (show n + 10 * i + 10 ≤ n + 10 * (i + 1) by omega)).same s6).put nF nFC
      · exact samePut (s35.trans (sameIm s6)) hF
      · intro x hx
        rcases List.mem_append.mp hx with hx | hx
        · exact hww x hx
        · rw [List.mem_singleton] at hx
          rw [hx]
          exact huw
    · rintro σ' H4 ⟨hP4, s4, ⟨ws, hwl, hwF, hwn, hww⟩, x3, x6, x7, x8, rfl⟩
      refine ⟨_, rfl, ?_⟩
      exact q _ _ (hP4.mono (by omega)) ((sameIm s3).trans s4) ⟨_, F, ws, rfl, rfl, Im_of hwF nF, by rw [hwl], hwn, hww⟩
end
end L06

namespace L06
open PySem PySem.Spec PyProof.Rows L2 Kq StX ClX
section
variable {P : Program} {w : World} {K : PySem.W.Frag} {mg : Str → Option Value} {base : Heap}
def prePart : List V → Hp → Prop := fun vs h => ∃ (a : Addr) (ws : List Str) (m : Nat), vs = [.ref a, .int (m : Int)] ∧ h a = some (.lst (ws.map V.str)) ∧ ws.length ≤ 52
def postPart : List V → V → Hp → Prop := fun vs v h => ∃ (a b : Addr) (ws us : List Str) (m : Nat), vs = [.ref a, .int (m : Int)] ∧ v = .ref b ∧ h a = some (.lst (ws.map V.str)) ∧ h b = some (.lst (us.map V.str)) ∧ us.Sublist ws ∧ us.length ≤ max m 2
def spPart : Sp := PenSp 110 prePart postPart
theorem strs_inj {xs ys : List Str} (h : xs.map V.str = ys.map V.str) : xs = ys := (List.map_inj_right fun a b h => V.str.inj h).mp h
theorem lst_inj {h : Hp} {a : Addr} {xs ys : List Str} (h1 : h a = some (.lst (xs.map V.str))) (h2 : h a = some (.lst (ys.map V.str))) : xs = ys := by
  rw [h1] at h2
  injection h2 with e
  injection e with e
  exact strs_inj e
theorem ok_part {f : Addr} {fd : FuncData} (F : Fun K "_law_part" "_law_part" st_part f fd) (T : Txt K mg) (P_draw : Prom P w K mg base 1 "_law_draw" ps_draw spDraw) (P_pick : Prom P w K mg base 2 "_law_pick" ps_pick spPick) : FnOk P w K mg base CX0 3 f fd ps_part spPart := by
  refine F.ok sc_part (fun vs H Q E h => ?_) (fun cdv A outer s H vs Q E hr h => ?_)
  · obtain ⟨p, c, n, rest, rfl, _, _, ⟨a, ws, m, rfl, _⟩, _⟩ := h
    rfl
  · obtain ⟨p, c, n, rest, rfl, hP, hn, ⟨a, ws, m, rfl, ha, hl⟩, q⟩ := h
    have hu := hr.units
    have sz : (sizeLine : Nat) = 16777216 := sizeLine_eq
    refine ⟨_, (pss_cons (ps_set (i := 3) sc_part.nd rfl (by first | exact Or.inl rfl | exact Or.inr rfl) (pe_p P_draw hr (by decide) (pa_cons (pv 0) (pa_cons pe_int pa_nil)))) (pss_cons (ps_if (pt_cmpR (opEqP tbF hu) (pv 3) pe_int (by first | exact nomark _ | rfl)) (pss_one (ps_ret (pe_slice (slP (K := K)) (pv 1) po_none (po_some (pe_p P_draw hr (by decide) (pa_cons (pv 0) (pa_cons pe_int pa_nil))))))) pss_nil) (pss_cons (ps_if (pt_cmpR (opEqP tbF hu) (pv 3) pe_int (by first | exact nomark _ | rfl)) (pss_one (ps_ret (pe_ifExp (pt_cmpR opGtP (pe_callB (callLenP (K := K)) rfl T.n_len (by decide +kernel) (pa_cons (pv 1) pa_nil)) (pv 2) (by first | exact nomark _ | rfl)) (pe_slice (slP (K := K)) (pv 1) (po_some (pe_op opSubP (pe_callB (callLenP (K := K)) rfl T.n_len (by decide +kernel) (pa_cons (pv 1) pa_nil)) (pv 2))) po_none) (pe_callTy (callListP (K := K)) rfl T.n_list (by decide +kernel) (pa_cons (pv 1) pa_nil))))) pss_nil) (pss_cons (ps_setLc (i := 4) (own := [("_law_word_here", 5)]) rfl sc_part.nd rfl rfl (sw_true rfl rfl rfl (by decide +kernel)) (pi_listP (K := K) (pv 1)) (blkOk_by (N := N_part) (sc := defScope st_part) (by decide +kernel)) (fun _ _ _ _ _ => (pg_name (i := 5) sc_part.nd rfl (by first | exact Or.inl rfl | exact Or.inr rfl))) (fun _ _ _ _ _ => (pts_one (pt_cmpR opGtP (pe_p P_draw hr (by decide) (pa_cons (pv 0) (pa_cons (pe_p P_pick hr (by decide) (pa_cons (pv 0) (pa_cons (pe_lst (pa_cons pe_int (pa_cons pe_int (pa_cons pe_int pa_nil)))) pa_nil))) pa_nil))) pe_int (by first | exact nomark _ | rfl)))) (fun _ _ _ _ _ => (pv 5))) (pss_one (ps_ret (pe_slice (slP (K := K)) (pv 4) po_none (po_some (pv 2))))))))), ?_⟩
    refine ⟨_, rfl, p, c, n, _, rfl, hP, by omega, ⟨5, rfl, by decide, by decide⟩, ?_⟩
    rintro v H1 hP1 s1 ⟨m1, r1, e1, rfl, _, _⟩
    have ha1 := s1 _ _ ha
    have ap := (Im_get ha).2
    refine ⟨_, rfl, Or.inl ⟨rfl, _, rfl, ?_⟩⟩
    refine ite2 (fun _ => ?_) (fun _ => ?_)
    · refine ⟨_, rfl, _, rfl, p, c, n + 1, _, rfl, hP1, by omega, ⟨3, rfl, by decide, by decide⟩, ?_⟩
      rintro v H2 hP2 s2 ⟨m2, r2, e2, rfl, z0, z1⟩
      cases e2
      obtain ⟨j, rfl⟩ := Int.eq_ofNat_of_zero_le z0
      have ha2 := s2 _ _ ha1
      refine ⟨_, rfl, Or.inl ⟨a, _, rfl, SqL.of (Im_get ha2).1, fun b hb => ?_⟩⟩
      rw [cut_hi, ← List.map_take]
      have s3 := (s1.trans s2).trans (Same.updI (o := .lst ((ws.take j).map V.str)) hb)
      exact q _ _ ((hP2.mono (by omega)).upd hb) s3 ⟨a, b, ws, _, m, rfl, rfl, s3 _ _ ha, Im_upd (hP2.ne hb), List.take_sublist _ _, by rw [List.length_take]; omega⟩
    refine ⟨_, rfl, Or.inl ⟨rfl, _, rfl, ?_⟩⟩
    refine ite2 (fun _ => ?_) (fun _ => ?_)
    · refine ⟨_, rfl, Or.inl ⟨a, _, rfl, Or.inl (SqL.of (Im_get ha1).1), ?_⟩⟩
      rw [List.length_map]
      refine ⟨_, rfl, Or.inl ⟨_, _, rfl, rfl, _, rfl, ?_⟩⟩
      refine ite2 (fun h => ?_) (fun h => ?_)
      · have h' : m < ws.length := by have := of_decide_eq_true h; omega
        refine ⟨_, rfl, _, rfl, Or.inl ⟨a, _, rfl, Or.inl (SqL.of (Im_get ha1).1), ?_⟩⟩
        rw [List.length_map]
        refine ⟨_, rfl, _, _, rfl, rfl, _, rfl, ?_⟩
        refine Or.inl ⟨a, _, rfl, SqL.of (Im_get ha1).1, fun b hb => ?_⟩
        rw [show (ws.length : Int) - (m : Int) = ((ws.length - m : Nat) : Int) from by omega, cut_lo, ← List.map_drop]
        have s3 := s1.trans (Same.updI (o := .lst ((ws.drop (ws.length - m)).map V.str)) hb)
        exact q _ _ ((hP1.mono (by omega)).upd hb) s3 ⟨a, b, ws, _, m, rfl, rfl, s3 _ _ ha, Im_upd (hP1.ne hb), List.drop_sublist _ _, by rw [List.length_drop]; omega⟩
      · have h' : ¬ m < ws.length := fun z => h (decide_eq_true (by omega))
        refine ⟨_, rfl, a, _, rfl, Or.inl (SqL.of (Im_get ha1).1), fun b hb => ?_⟩
        have s3 := s1.trans (Same.updI (o := .lst (ws.map V.str)) hb)
        exact q _ _ ((hP1.mono (by omega)).upd hb) s3 ⟨a, b, ws, _, m, rfl, rfl, s3 _ _ ha, Im_upd (hP1.ne hb), List.Sublist.refl _, by omega⟩
    refine ⟨_, rfl, a, rfl, ⟨_, SqL.of (Im_get ha1).1⟩, fun D hD => ?_⟩
    have nD := hP1.ne hD
    have nC := hP1.neC hD
    refine lc_it walk_list (fun i H' => PenAt H' p c (n + 1 + 2 * i) ∧ Same (Im H1 p) (Im H' p) ∧ ∃ us : List Str, H' D = some (.lst (us.map V.str)) ∧ us.Sublist (ws.take i)) ⟨hP1.upd hD, Same.updI hD, [], upd_same, List.Sublist.refl _⟩ (fun _ _ _ h => SqL.of (Im_get (h.2.1 _ _ ha1)).1) ?_ ?_
    · rintro i x H2 H' hi ⟨hP2, s2, us, hD2, su⟩ ⟨rfl, hx⟩
      obtain ⟨k, hk, rfl⟩ := get_map_str hx
      rw [List.length_map] at hi
      refine ⟨rfl, ?_⟩
      refine ⟨_, rfl, _, rfl, by show 3 ≤ sizeLine; decide, fun l hl' => ?_⟩
      refine ⟨p, c, n + 1 + 2 * i, _, rfl, hP2.upd hl', by omega, ⟨_, rfl, Or.inl ⟨l, _, rfl, Or.inl (Im_upd (hP2.ne hl')), by simp, by show 3 ≤ 100000; decide⟩⟩, ?_⟩
      rintro v H3 hP3 s3 ⟨x, ex, hi3⟩
      cases ex
      have hv := hi3.lst (s3 _ _ (Im_upd (hP2.ne hl')))
      obtain ⟨j, rfl, hj1, hj2⟩ : ∃ j : Int, v = .int j ∧ 0 < j ∧ j < 1073741824 := by
        simp only [List.mem_cons, List.not_mem_nil, or_false] at hv
        rcases hv with rfl | rfl | rfl
        · exact ⟨2, rfl, by omega, by omega⟩
        · exact ⟨2, rfl, by omega, by omega⟩
        · exact ⟨9, rfl, by omega, by omega⟩
      have s23 := (Same.updI (p := p) (o := HO.lst [.int 2, .int 2, .int 9]) hl').trans s3
      refine ⟨p, c, n + 1 + 2 * i + 1, _, rfl, hP3, by omega, ⟨_, rfl, hj1, hj2⟩, ?_⟩
      rintro v H4 hP4 s4 ⟨m4, r4, e4, rfl, _, _⟩
      have s24 := s23.trans s4
      have hD4 : H4 D = some (.lst (us.map V.str)) := same_at s24 hD2 nD
      refine Or.inl ⟨_, _, rfl, rfl, _, rfl, ?_⟩
      have lu : us.length ≤ 52 := by
        have := su.length_le
        rw [List.length_take] at this
        omega
      refine ite2 (fun _ => ?_) (fun _ => ?_)
      · refine ⟨_, rfl, _, hD4, by rw [List.length_map]; omega, ?_, ?_, us ++ [k], by rw [upd_same, List.map_append]; rfl, ?_⟩
        · exact (show n + 1 + 2 * i + 1 + 1 = n + 1 + 2 * (i + 1) by omega) ▸ hP4.put nD nC
        · exact samePut (s2.trans s24) hD
        · rw [take_succ' hk]
          exact su.append (List.Sublist.refl _)
      · refine ⟨(show n + 1 + 2 * i + 1 + 1 = n + 1 + 2 * (i + 1) by omega) ▸ hP4, s2.trans s24, us, hD4, ?_⟩
        rw [take_succ' hk]
        exact su.trans (List.sublist_append_left _ _)
    · rintro H2 ⟨hP2, s2, us, hD2, su⟩
      rw [List.length_map] at hP2 su
      rw [take_all] at su
      refine ⟨_, rfl, _, rfl, _, rfl, Or.inl ⟨D, _, rfl, SqL.of hD2, fun b hb => ?_⟩⟩
      rw [cut_hi, ← List.map_take]
      have s3 := (s1.trans s2).trans (Same.updI (o := .lst ((us.take m).map V.str)) hb)
      exact q _ _ ((hP2.mono (by omega)).upd hb) s3 ⟨a, b, ws, _, m, rfl, rfl, s3 _ _ ha, Im_upd (hP2.ne hb), (List.take_sublist _ _).trans su, by rw [List.length_take]; omega⟩

def preTurned : List V → Hp → Prop := fun vs h => ∃ (a : Addr) (xs : List V), vs = [.ref a] ∧ h a = some (.lst xs) ∧ xs.length ≤ 52
def postTurned : List V → V → Hp → Prop := fun vs v h => ∃ (a b : Addr) (xs ys : List V), vs = [.ref a] ∧ v = .ref b ∧ h a = some (.lst xs) ∧ h b = some (.lst ys) ∧ ys.Perm xs
def spTurned : Sp := PenSp 52 preTurned postTurned
theorem ok_turned {f : Addr} {fd : FuncData} (F : Fun K "_law_turned" "_law_turned" st_turned f fd) (T : Txt K mg) (P_draw : Prom P w K mg base 1 "_law_draw" ps_draw spDraw) : FnOk P w K mg base CX0 2 f fd ps_turned spTurned := by
  refine F.ok sc_turned (fun vs H Q E h => ?_) (fun cdv A outer s H vs Q E hr h => ?_)
  · obtain ⟨p, c, n, rest, rfl, _, _, ⟨a, xs, rfl, _⟩, _⟩ := h
    rfl
  · obtain ⟨p, c, n, rest, rfl, hP, hn, ⟨a, xs, rfl, ha, hl⟩, q⟩ := h
    have hu := hr.units
    have sz : (sizeLine : Nat) = 16777216 := sizeLine_eq
    refine ⟨_, (pss_cons (ps_par (i := 2) (j := 3) rfl sc_turned.nd rfl rfl (by decide) rfl rfl (pa_cons (pe_callTy (callListP (K := K)) rfl T.n_list (by decide +kernel) (pa_cons (pv 1) pa_nil)) (pa_cons (pe_lst pa_nil) pa_nil)) rfl) (pss_cons (ps_for PassesOwn.never rfl (pi_range1 rfl T.n_range (pa_cons (pe_callB (callLenP (K := K)) rfl T.n_len (by decide +kernel) (pa_cons (pv 1) pa_nil)) pa_nil)) (pg_name (i := 4) sc_turned.nd rfl (by first | exact Or.inl rfl | exact Or.inr rfl)) (pss_cons (ps_set (i := 5) sc_turned.nd rfl (by first | exact Or.inl rfl | exact Or.inr rfl) (pe_p P_draw hr (by decide) (pa_cons (pv 0) (pa_cons (pe_callB (callLenP (K := K)) rfl T.n_len (by decide +kernel) (pa_cons (pv 2) pa_nil)) pa_nil)))) (pss_cons (ps_expr (pe_bm PySem.F.plainAttrs_list PySem.F.slot_list_append PySem.F.type_list_append mt_append (pv 3) (pa_cons (pe_ix (ixP (K := K)) (pv 2) (pv 5) (fun _ _ => rfl)) pa_nil))) (pss_one (ps_set (i := 2) sc_turned.nd rfl (by first | exact Or.inl rfl | exact Or.inr rfl) (pe_op (opAddP (K := K)) (pe_slice (slP (K := K)) (pv 2) po_none (po_some (pv 5))) (pe_slice (slP (K := K)) (pv 2) (po_some (pe_op (opAddP (K := K)) (pv 5) pe_int)) po_none))))))) (pss_one (ps_ret (pv 3))))), ?_⟩
    have ap := (Im_get ha).2
    refine ⟨_, rfl, a, _, rfl, Or.inl (SqL.of (Im_get ha).1), fun L hL => ?_⟩
    have nL := hP.ne hL
    have s1 := Same.updI (p := p) (o := HO.lst xs) hL
    have hP1 := hP.upd (o := HO.lst xs) hL
    have hL1 : (upd H L (.lst xs)) L = some (.lst xs) := upd_same
    generalize upd H L (.lst xs) = H1 at s1 hP1 hL1 ⊢
    refine ⟨Nat.zero_le _, fun F hF => ?_⟩
    have nF := hP1.ne hF
    have nFC := hP1.neC hF
    have ha1 := s1 _ _ ha
    refine ⟨_, _, rfl, ?_⟩
    refine ⟨_, rfl, Or.inl ⟨a, _, rfl, Or.inl (SqL.of ((Same.upd hF) _ _ (Im_get ha1).1)), _, rfl, by omega, by omega, ?_⟩⟩
    rw [Int.toNat_natCast]
    refine for_range (fun i σ' H' => PenAt H' p c (n + i) ∧ Same (Im H1 p) (Im H' p) ∧ ∃ (l : Addr) (ls fs : List V) (x4 x5 : Option V), H' F = some (.lst fs) ∧ l ≠ F ∧ H' l = some (.lst ls) ∧ l ≠ p ∧ ls.length + i = xs.length ∧ fs.length = i ∧ (fs ++ ls).Perm xs ∧
      σ' = [some (.ref p), some (.ref a), some (.ref l), some (.ref F), x4, x5]) ⟨hP1.upd hF, Same.updI hF, L, xs, [], _, _, upd_same, ne_of_none hL1 hF, (Same.upd hF) _ _ hL1, nL, by omega, rfl, List.Perm.refl _, rfl⟩ ?_ ?_
    · rintro i σ' H2 hi ⟨hP2, s2, l, ls, fs, x4, x5, hF2, lF, hl2, lp, e1, e2, pm, rfl⟩
      refine ⟨_, rfl, _, rfl, Or.inl ⟨l, _, rfl, Or.inl (SqL.of hl2), ?_⟩⟩
      refine ⟨p, c, n + i, _, rfl, hP2, by omega, ⟨_, rfl, by omega, by omega⟩, ?_⟩
      rintro v H3 hP3 s3 ⟨m, r, e3, rfl, z0, z1⟩
      cases e3
      obtain ⟨j, rfl⟩ := Int.eq_ofNat_of_zero_le z0
      have hj : j < ls.length := by omega
      have hF3 := same_at s3 hF2 nF
      have hl3 := same_at s3 hl2 lp
      refine ⟨_, rfl, Or.inl ⟨rfl, _, SqL.of hF3⟩, _, rfl, _, rfl, Or.inl ⟨l, _, _, ls[j], rfl, rfl, SqL.of hl3, atI_nat (List.getElem?_eq_getElem hj), ?_⟩⟩
      refine ⟨F, _, _, rfl, rfl, hF3, by omega, ?_⟩
      have s4 : Same (Im H1 p) (Im (upd H3 F (.lst (fs ++ [ls[j]]))) p) := samePut (s2.trans s3) hF
      have hP4 : PenAt (upd H3 F (.lst (fs ++ [ls[j]]))) p c (n + (i + 1)) := (show n + i + 1 = n + (i + 1) by omega) ▸ hP3.put nF nFC
      have hF4 : (upd H3 F (.lst (fs ++ [ls[j]]))) F = some (.lst (fs ++ [ls[j]])) := upd_same
      have hl4 : (upd H3 F (.lst (fs ++ [ls[j]]))) l = some (.lst ls) := by rw [upd_ne lF]; exact hl3
      generalize upd H3 F (.lst (fs ++ [ls[j]])) = H4 at s4 hP4 hF4 hl4 ⊢
      refine ⟨_, rfl, _, rfl, _, rfl, Or.inl ⟨l, _, rfl, SqL.of hl4, fun b1 hb1 => ?_⟩⟩
      rw [cut_hi]
      have s5 := Same.upd (o := HO.lst (ls.take j)) hb1
      have h1 : (upd H4 b1 (.lst (ls.take j))) b1 = some (.lst (ls.take j)) := upd_same
      generalize upd H4 b1 (.lst (ls.take j)) = H5 at s5 h1 ⊢
      refine ⟨_, rfl, _, rfl, Or.inl ⟨_, _, rfl, rfl, _, rfl, Or.inl ⟨l, _, rfl, SqL.of (s5 _ _ hl4), fun b2 hb2 => ?_⟩⟩⟩
      rw [show ((j : Nat) : Int) + 1 = ((j + 1 : Nat) : Int) from by omega, cut_lo]
      have s6 := Same.upd (o := HO.lst (ls.drop (j + 1))) hb2
      have h2 : (upd H5 b2 (.lst (ls.drop (j + 1)))) b2 = some (.lst (ls.drop (j + 1))) := upd_same
      generalize upd H5 b2 (.lst (ls.drop (j + 1))) = H6 at s6 h2 ⊢
      refine Or.inr (Or.inr (Or.inl ⟨b1, b2, _, _, rfl, rfl, s6 _ _ h1, h2, by rw [List.length_take, List.length_drop]; omega, fun b3 hb3 => ?_⟩))
      have s7 := Same.upd (o := HO.lst (ls.take j ++ ls.drop (j + 1))) hb3
      have s47 := (s5.trans s6).trans s7
      have hb4 : H4 b3 = none := by
        cases e : H4 b3 with
        | none => rfl
        | some o => rw [(s5.trans s6) _ _ e] at hb3; cases hb3
      refine ⟨hP4.same s47, s4.trans (sameIm s47), b3, _, _, _, _, s47 _ _ hF4, (ne_of_none hF4 hb4).symm, upd_same, hP4.ne hb4, ?_, ?_, ?_, rfl⟩
      · rw [List.length_append, List.length_take, List.length_drop]
        omega
      · rw [List.length_append, e2]
        rfl
      · refine List.Perm.trans ?_ pm
        rw [List.append_assoc]
        refine List.Perm.append_left _ ?_
        have e5 : ls = ls.take j ++ (ls[j] :: ls.drop (j + 1)) := by
          rw [List.getElem_cons_drop, List.take_append_drop]
        refine List.Perm.trans ?_ (List.Perm.of_eq e5.symm)
        rw [List.singleton_append]
        exact List.perm_middle.symm
    · rintro σ' H2 ⟨hP2, s2, l, ls, fs, x4, x5, hF2, lF, hl2, lp, e1, e2, pm, rfl⟩
      have e0 : ls = [] := List.eq_nil_of_length_eq_zero (by omega)
      subst e0
      rw [List.append_nil] at pm
      refine ⟨_, rfl, ?_⟩
      exact q _ _ (hP2.mono (by omega)) (s1.trans s2) ⟨a, F, xs, fs, rfl, rfl, s2 _ _ ha1, Im_of hF2 nF, pm⟩
end
end L06

namespace L06
open PySem PySem.Spec PyProof.Rows L2 Kq StX ClX
section
variable {P : Program} {w : World} {K : PySem.W.Frag} {mg : Str → Option Value} {base : Heap}
def blk : Str := Str.ofString " "
def pairsOf (r1 r2 : List Str) : List Str := (r1.map fun a => r2.map fun b => a ++ blk ++ b).flatten
theorem pairs_len (r1 r2 : List Str) : (pairsOf r1 r2).length = r1.length * r2.length := by
  unfold pairsOf
  induction r1 with
  | nil => simp
  | cons a r1 ih => rw [List.map_cons, List.flatten_cons, List.length_append, ih, List.length_map, List.length_cons, Nat.add_mul, Nat.one_mul, Nat.add_comm]
theorem pairs_snoc (r1 r2 : List Str) (a : Str) : pairsOf (r1 ++ [a]) r2 = pairsOf r1 r2 ++ r2.map fun b => a ++ blk ++ b := by
  unfold pairsOf
  rw [List.map_append, List.flatten_append]
  simp
def Row2 (vs : List V) (r1 r2 : List Str) (H : Hp) (Q : VK) : Prop := (∀ s ∈ r1, IsW s) ∧ (∀ s ∈ r2, IsW s) ∧ r1.length ≤ 24 ∧ r2.length ≤ 24 ∧ ∀ l H', Same H H' → H' l = some (.lst ((pairsOf r1 r2).map V.str)) → Q (.ref l) H'
def spPairsT : Sp := fun vs H Q _ => ∃ t1 t2 r1 r2, vs = [.ref t1, .ref t2] ∧ H t1 = some (.tup (r1.map V.str)) ∧ H t2 = some (.tup (r2.map V.str)) ∧ Row2 vs r1 r2 H Q
def spPairsO (C : Addr) : Sp := fun vs H Q _ => ∃ g1 g2 r1 r2, vs = [.ref g1, .ref g2] ∧ GrpAt C H g1 r1 ∧ GrpAt C H g2 r2 ∧ Row2 vs r1 r2 H Q
theorem app_len (a b : Str) : (a ++ b).length = a.length + b.length := by
  rw [str_len, str_len, str_len, str_app, List.length_append]
theorem ok_pairsT {f : Addr} {fd : FuncData} (F : Fun K "_law_pairs" "_law_pairs" st_pairs f fd) : FnOk P w K mg base CX0 1 f fd ps_pairs spPairsT := by
  refine F.ok sc_pairs (fun vs H Q E h => ?_) (fun cdv A outer s H vs Q E hr h => ?_)
  · obtain ⟨t1, t2, r1, r2, rfl, _⟩ := h
    rfl
  · obtain ⟨t1, t2, r1, r2, rfl, ht1, ht2, hw1, hw2, l1, l2, q⟩ := h
    have sz : (sizeLine : Nat) = 16777216 := sizeLine_eq
    refine ⟨_, (pss_cons (ps_set (i := 2) sc_pairs.nd rfl (by first | exact Or.inl rfl | exact Or.inr rfl) (pe_lst pa_nil)) (pss_cons (ps_for PassesOwn.never rfl (pi_tupP (K := K) (pv 0)) (pg_name (i := 3) sc_pairs.nd rfl (by first | exact Or.inl rfl | exact Or.inr rfl)) (pss_one (ps_for PassesOwn.never rfl (pi_tupP (K := K) (pv 1)) (pg_name (i := 4) sc_pairs.nd rfl (by first | exact Or.inl rfl | exact Or.inr rfl)) (pss_one (ps_expr (pe_bm PySem.F.plainAttrs_list PySem.F.slot_list_append PySem.F.type_list_append mt_append (pv 2) (pa_cons (pe_op (opAddP (K := K)) (pe_op (opAddP (K := K)) (pv 3) pe_str) (pv 4)) pa_nil))))))) (pss_one (ps_ret (pv 2))))), ?_⟩
    refine ⟨Nat.zero_le _, fun F hF => ?_⟩
    refine ⟨_, rfl, t1, rfl, ⟨_, SqT.of ((Same.upd hF) _ _ ht1)⟩, ?_⟩
    refine for_it walk_tup (fun i σ' H' => Same H H' ∧ H' F = some (.lst ((pairsOf (r1.take i) r2).map V.str)) ∧ ∃ x3 x4, σ' = [some (.ref t1), some (.ref t2), some (.ref F), x3, x4]) ⟨Same.upd hF, upd_same, _, _, rfl⟩ (fun _ _ _ _ h => SqT.of (h.1 _ _ ht1)) ?_ ?_
    · rintro i x σ' H1 H2 hi ⟨s1, hF1, x3, x4, rfl⟩ ⟨rfl, hx⟩
      obtain ⟨k, hk, rfl⟩ := get_map_str hx
      rw [List.length_map] at hi
      have hW := hw1 k (List.mem_of_getElem? hk)
      refine ⟨_, rfl, t2, rfl, ⟨_, SqT.of (s1 _ _ ht2)⟩, ?_⟩
      refine for_it walk_tup (fun j σ' H' => Same H H' ∧ H' F = some (.lst ((pairsOf (r1.take i) r2 ++ (r2.take j).map fun b => k ++ blk ++ b).map V.str)) ∧ ∃ x4, σ' = [some (.ref t1), some (.ref t2), some (.ref F), some (.str k), x4]) ⟨s1, by rw [hF1]; simp, _, rfl⟩ (fun _ _ _ _ h => SqT.of (h.1 _ _ ht2)) ?_ ?_
      · rintro j y σ' H3 H4 hj ⟨s3, hF3, x4', rfl⟩ ⟨rfl, hy⟩
        obtain ⟨m, hm, rfl⟩ := get_map_str hy
        rw [List.length_map] at hj
        have hM := hw2 m (List.mem_of_getElem? hm)
        have hb : blk.length = 1 := by decide +kernel
        have lk := hW.2.1
        have lm := hM.2.1
        refine ⟨_, rfl, Or.inl ⟨rfl, _, SqL.of hF3⟩, _, rfl, Or.inr (Or.inl ⟨_, _, rfl, rfl, by show k.length + blk.length ≤ _; omega, ?_⟩)⟩
        refine ⟨_, rfl, Or.inr (Or.inl ⟨_, _, rfl, rfl, by rw [app_len]; show k.length + blk.length + _ ≤ _; omega, ?_⟩)⟩
        refine ⟨F, _, _, rfl, rfl, hF3, ?_, sput s3 hF, ?_, _, rfl⟩
        · rw [List.length_map, List.length_append, pairs_len, List.length_map, List.length_take, List.length_take]
          have := Nat.mul_le_mul (show min i r1.length ≤ 24 by omega) l2
          omega
        · rw [upd_same, take_succ' hm, List.map_append, List.map_append, List.map_append, List.map_append, List.append_assoc]
          rfl
      · rintro σ' H3 ⟨s3, hF3, x4', rfl⟩
        rw [List.length_map, take_all] at hF3
        refine ⟨s3, ?_, _, _, rfl⟩
        rw [hF3, take_succ' hk, pairs_snoc]
    · rintro σ' H1 ⟨s1, hF1, x3, x4, rfl⟩
      rw [List.length_map, take_all] at hF1
      exact ⟨_, rfl, q _ _ s1 hF1⟩
theorem ok_pairsO {C : Addr} {f : Addr} {fd : FuncData} (F : Fun K "_law_pairs" "_law_pairs" st_pairs f fd) (I_Group : ItProm P w K mg base 1 C "row") : FnOk P w K mg base CX0 2 f fd ps_pairs (spPairsO C) := by
  refine F.ok sc_pairs (fun vs H Q E h => ?_) (fun cdv A outer s H vs Q E hr h => ?_)
  · obtain ⟨t1, t2, r1, r2, rfl, _⟩ := h
    rfl
  · obtain ⟨g1, g2, r1, r2, rfl, ⟨dx1, t1, hg1, ht1, _⟩, ⟨dx2, t2, hg2, ht2, _⟩, hw1, hw2, l1, l2, q⟩ := h
    have sz : (sizeLine : Nat) = 16777216 := sizeLine_eq
    refine ⟨_, (pss_cons (ps_set (i := 2) sc_pairs.nd rfl (by first | exact Or.inl rfl | exact Or.inr rfl) (pe_lst pa_nil)) (pss_cons (ps_for PassesOwn.never rfl (pi_own (K := K) I_Group hr (by decide) (pv 0)) (pg_name (i := 3) sc_pairs.nd rfl (by first | exact Or.inl rfl | exact Or.inr rfl)) (pss_one (ps_for PassesOwn.never rfl (pi_own (K := K) I_Group hr (by decide) (pv 1)) (pg_name (i := 4) sc_pairs.nd rfl (by first | exact Or.inl rfl | exact Or.inr rfl)) (pss_one (ps_expr (pe_bm PySem.F.plainAttrs_list PySem.F.slot_list_append PySem.F.type_list_append mt_append (pv 2) (pa_cons (pe_op (opAddP (K := K)) (pe_op (opAddP (K := K)) (pv 3) pe_str) (pv 4)) pa_nil))))))) (pss_one (ps_ret (pv 2))))), ?_⟩
    refine ⟨Nat.zero_le _, fun F hF => ?_⟩
    refine ⟨_, rfl, g1, dx1, _, t1, _, rfl, (Same.upd hF) _ _ hg1, row_get, SqT.of ((Same.upd hF) _ _ ht1), ?_⟩
    refine for_it walk_tup (fun i σ' H' => Same H H' ∧ H' F = some (.lst ((pairsOf (r1.take i) r2).map V.str)) ∧ ∃ x3 x4, σ' = [some (.ref g1), some (.ref g2), some (.ref F), x3, x4]) ⟨Same.upd hF, upd_same, _, _, rfl⟩ (fun _ _ _ _ h => SqT.of (h.1 _ _ ht1)) ?_ ?_
    · rintro i x σ' H1 H2 hi ⟨s1, hF1, x3, x4, rfl⟩ ⟨rfl, hx⟩
      obtain ⟨k, hk, rfl⟩ := get_map_str hx
      rw [List.length_map] at hi
      have hW := hw1 k (List.mem_of_getElem? hk)
      refine ⟨_, rfl, g2, dx2, _, t2, _, rfl, s1 _ _ hg2, row_get, SqT.of (s1 _ _ ht2), ?_⟩
      refine for_it walk_tup (fun j σ' H' => Same H H' ∧ H' F = some (.lst ((pairsOf (r1.take i) r2 ++ (r2.take j).map fun b => k ++ blk ++ b).map V.str)) ∧ ∃ x4, σ' = [some (.ref g1), some (.ref g2), some (.ref F), some (.str k), x4]) ⟨s1, by rw [hF1]; simp, _, rfl⟩ (fun _ _ _ _ h => SqT.of (h.1 _ _ ht2)) ?_ ?_
      · rintro j y σ' H3 H4 hj ⟨s3, hF3, x4', rfl⟩ ⟨rfl, hy⟩
        obtain ⟨m, hm, rfl⟩ := get_map_str hy
        rw [List.length_map] at hj
        have hM := hw2 m (List.mem_of_getElem? hm)
        have hb : blk.length = 1 := by decide +kernel
        have lk := hW.2.1
        have lm := hM.2.1
        refine ⟨_, rfl, Or.inl ⟨rfl, _, SqL.of hF3⟩, _, rfl, Or.inr (Or.inl ⟨_, _, rfl, rfl, by show k.length + blk.length ≤ _; omega, ?_⟩)⟩
        refine ⟨_, rfl, Or.inr (Or.inl ⟨_, _, rfl, rfl, by rw [app_len]; show k.length + blk.length + _ ≤ _; omega, ?_⟩)⟩
        refine ⟨F, _, _, rfl, rfl, hF3, ?_, sput s3 hF, ?_, _, rfl⟩
        · rw [List.length_map, List.length_append, pairs_len, List.length_map, List.length_take, List.length_take]
          have := Nat.mul_le_mul (show min i r1.length ≤ 24 by omega) l2
          omega
        · rw [upd_same, take_succ' hm, List.map_append, List.map_append, List.map_append, List.map_append, List.append_assoc]
          rfl
      · rintro σ' H3 ⟨s3, hF3, x4', rfl⟩
        rw [List.length_map, take_all] at hF3
        refine ⟨s3, ?_, _, _, rfl⟩
        rw [hF3, take_succ' hk, pairs_snoc]
    · rintro σ' H1 ⟨s1, hF1, x3, x4, rfl⟩
      rw [List.length_map, take_all] at hF1
      exact ⟨_, rfl, q _ _ s1 hF1⟩
end
end L06

namespace L06
open PySem PySem.Spec PyProof.Rows L2 Kq StX ClX
section
variable {P : Program} {w : World} {K : PySem.W.Frag} {mg : Str → Option Value} {base : Heap}
/-! ### sets of words over one row of words -/
structure Uni (W : List Str) : Prop where
  ris : Ris1 W
  isw : ∀ s ∈ W, IsW s
  few : W.length ≤ 24
theorem Ris1.filter {W : List Str} (h : Ris1 W) (p : Str → Bool) : Ris1 (W.filter p) := List.Pairwise.sublist (List.filter_sublist) h
section
variable {W : List Str} {p q r : Str → Bool} {C a b : Addr} {H : Hp} {Q : VK} {dx : Addr}
abbrev GP (C : Addr) (W : List Str) (H : Hp) (g : Addr) (p : Str → Bool) : Prop := GrpAt C H g (W.filter p)
theorem Uni.flen (U : Uni W) : (W.filter p).length ≤ 24 := Nat.le_trans (List.length_filter_le ..) U.few
theorem Uni.fisw (U : Uni W) : ∀ s ∈ W.filter p, IsW s := fun s h => U.isw s (List.mem_filter.mp h).1
theorem ins_of {row : List Str} (h : GrpAt C H a row) : ∃ dx fs, H a = some (.ins C dx fs) := by
  obtain ⟨dx, t, h1, _⟩ := h
  exact ⟨_, _, h1⟩
def Gone (C : Addr) (W : List Str) (H : Hp) (r : Str → Bool) (Q : VK) : Prop := ∀ g H', Same H H' → GP C W H' g r → Q (.ref g) H'
theorem gone_new (U : Uni W) {ws : List Str} (m : ∀ k, k ∈ ws ↔ k ∈ W.filter r) (q : Gone C W H r Q) : NewG C H ws Q := by
  intro g H' row n s at_ me
  have e : row = W.filter r := by
    obtain ⟨dx, t, _, _, hr, _⟩ := id at_
    exact Ris1.ext hr (Ris1.filter U.ris r) fun k => (me k).trans (m k)
  exact q g H' s (by show GrpAt C H' g (W.filter r); rw [← e]; exact at_)
theorem bin_go (U : Uni W) {f : Str → List Str → List Str → Bool} (ha : GP C W H a p) (hb : GP C W H b q) (m : ∀ k, k ∈ ((W.filter p ++ W.filter q).filter fun k => f k (W.filter p) (W.filter q)) ↔ k ∈ W.filter r) (go : Gone C W H r Q) : rBinOwn C (spBin C f) (.ref a) (.ref b) H Q := by
  obtain ⟨dx, fs, h1⟩ := ins_of ha
  obtain ⟨dy, gs, h2⟩ := ins_of hb
  refine ⟨a, dx, fs, b, dy, gs, rfl, rfl, h1, h2, a, b, _, _, rfl, ha, hb, U.flen, U.flen, ?_, gone_new U m go⟩
  refine ⟨fun s hs => U.fisw s ((m s).mp hs), ?_, fun ys nd me => Nat.le_trans (nodup_le nd (fun k hk => (List.mem_filter.mp ((m k).mp (me k hk))).1)) U.few⟩
  have h1 : (W.filter p).length ≤ 24 := U.flen
  have h2 : (W.filter q).length ≤ 24 := U.flen
  exact Nat.le_trans (List.length_filter_le ..) (by rw [List.length_append]; omega)
theorem and_go (U : Uni W) (ha : GP C W H a p) (hb : GP C W H b q) (go : Gone C W H (fun k => p k && q k) Q) : rBinOwn C (spBin C pAnd) (.ref a) (.ref b) H Q :=
  bin_go U ha hb (fun k => by simp only [List.mem_filter, List.mem_append, pAnd, Bool.and_eq_true, decide_eq_true_eq]; grind) go
theorem or_go (U : Uni W) (ha : GP C W H a p) (hb : GP C W H b q) (go : Gone C W H (fun k => p k || q k) Q) : rBinOwn C (spBin C pOr) (.ref a) (.ref b) H Q :=
  bin_go U ha hb (fun k => by simp only [List.mem_filter, List.mem_append, pOr, Bool.or_eq_true]; grind) go
theorem sub_go (U : Uni W) (ha : GP C W H a p) (hb : GP C W H b q) (go : Gone C W H (fun k => p k && !q k) Q) : rBinOwn C (spBin C pSub) (.ref a) (.ref b) H Q :=
  bin_go U ha hb (fun k => by simp only [List.mem_filter, List.mem_append, pSub, Bool.and_eq_true, decide_eq_true_eq, Bool.not_eq_true', decide_eq_false_iff_not]; grind) go
theorem xor_go (U : Uni W) (ha : GP C W H a p) (hb : GP C W H b q) (go : Gone C W H (fun k => p k != q k) Q) : rBinOwn C (spBin C pXor) (.ref a) (.ref b) H Q :=
  bin_go U ha hb (fun k => by simp only [List.mem_filter, List.mem_append, pXor, bne_iff_ne, ne_eq, decide_eq_decide]; grind) go
theorem eq_go {r1 r2 : List Str} (ha : GrpAt C H a r1) (hb : GrpAt C H b r2) {neg : Bool} (go : Q (.bl (if neg then !decide (r1 = r2) else decide (r1 = r2))) H) : rOwn K C (spGEq C) neg (.ref a) (.ref b) H Q := by
  obtain ⟨dx, fs, h1⟩ := ins_of ha
  obtain ⟨dy, gs, h2⟩ := ins_of hb
  exact ⟨a, dx, fs, .ref C, rfl, h1, .ins h2, notFirst_self K C, a, _, _, rfl, ha, Or.inl ⟨b, _, rfl, hb, _, rfl, go⟩⟩
theorem len_go {r1 : List Str} (ha : GrpAt C H a r1) (hl : r1.length ≤ 24) (go : Q (.int (r1.length : Int)) H) : rLenOwn C (spLenF K C "row") [.ref a] H Q := by
  obtain ⟨dx, t, h1, h2, _⟩ := ha
  refine ⟨a, dx, _, rfl, h1, a, dx, _, t, _, rfl, h1, row_get, SqT.of h2, r1.length, by rw [List.length_map], by omega, go⟩
theorem in_go {r1 : List Str} {k : Str} (ha : GrpAt C H a r1) (go : Q (.bl (decide (k ∈ r1))) H) : rInOwn C (spContains C) false (.str k) (.ref a) H Q := by
  obtain ⟨dx, fs, h1⟩ := ins_of ha
  exact ⟨a, dx, fs, rfl, h1, a, _, _, _, rfl, ha, TyV.str k, _, rfl, go⟩
/-! ### what they come to -/
theorem feq {a b : Str → Bool} (h : ∀ k, a k = b k) : decide (W.filter a = W.filter b) = true := by rw [show a = b from funext h]; exact decide_eq_true rfl
def cnt (W : List Str) (p : Str → Bool) : Nat := (W.filter p).length
theorem cnt_add (p q r s : Str → Bool) (h : ∀ k, (p k).toNat + (q k).toNat = (r k).toNat + (s k).toNat) : cnt W p + cnt W q = cnt W r + cnt W s := by
  unfold cnt
  induction W with
  | nil => rfl
  | cons x W ih =>
    have := h x
    simp only [List.filter_cons]
    cases hp : p x <;> cases hq : q x <;> cases hr : r x <;> cases hs : s x <;> simp [hp, hq, hr, hs] at this ⊢ <;> omega
theorem cnt_zero (h : ∀ k, p k = false) : cnt W p = 0 := by
  unfold cnt
  rw [show p = fun _ => false from funext h]
  simp
theorem within_iff : pWithin (W.filter p) (W.filter q) = W.all fun k => !p k || q k := by
  unfold pWithin
  rw [Bool.eq_iff_iff, List.all_eq_true, List.all_eq_true]
  simp only [List.mem_filter, decide_eq_true_eq, Bool.or_eq_true, Bool.not_eq_true']
  grind
theorem within_left : pWithin (W.filter p) (W.filter q) = decide (cnt W (fun k => p k && !q k) = 0) := by
  rw [within_iff, Bool.eq_iff_iff, List.all_eq_true, decide_eq_true_eq]
  unfold cnt
  rw [List.length_eq_zero_iff, List.filter_eq_nil_iff]
  simp only [Bool.or_eq_true, Bool.not_eq_true', Bool.and_eq_true]
  grind
theorem within_both : pWithin (W.filter p) (W.filter q) = decide (W.filter (fun k => p k && q k) = W.filter p) := by
  rw [within_iff, Bool.eq_iff_iff, List.all_eq_true, decide_eq_true_eq]
  constructor
  · intro h
    refine List.filter_congr fun k hk => ?_
    have := h k hk
    cases e1 : p k <;> cases e2 : q k <;> simp [e1, e2] at this ⊢
  · intro h k hk
    cases e1 : p k with
    | false => simp
    | true =>
      have : k ∈ W.filter fun k => p k && q k := by rw [h]; exact List.mem_filter.mpr ⟨hk, e1⟩
      have := (List.mem_filter.mp this).2
      simp only [Bool.and_eq_true] at this
      simp [this.2]
theorem common_eq : common (W.filter p) (W.filter q) = W.filter fun k => p k && q k := by
  unfold common
  rw [List.filter_filter]
  refine List.filter_congr fun k hk => ?_
  rw [Bool.eq_iff_iff, Bool.and_eq_true, Bool.and_eq_true, decide_eq_true_eq, List.mem_filter]
  grind
theorem over_iff : pOver (W.filter p) (W.filter q) = (decide (0 < cnt W fun k => p k && q k) && (decide (0 < cnt W fun k => p k && !q k) && decide (0 < cnt W fun k => q k && !p k))) := by
  have h1 := cnt_add (W := W) (fun k => p k && q k) (fun k => p k && !q k) p (fun _ => false) fun k => by cases p k <;> cases q k <;> rfl
  have h2 := cnt_add (W := W) (fun k => p k && q k) (fun k => q k && !p k) q (fun _ => false) fun k => by cases p k <;> cases q k <;> rfl
  have h0 : cnt W (fun _ => false) = 0 := cnt_zero fun _ => rfl
  unfold pOver
  rw [common_eq, Bool.eq_iff_iff]
  simp only [Bool.and_eq_true, decide_eq_true_eq]
  unfold cnt at *
  omega
theorem over_comm : pOver (W.filter p) (W.filter q) = pOver (W.filter q) (W.filter p) := by
  rw [over_iff, over_iff, show (fun k => p k && q k) = fun k => q k && p k from funext fun k => by cases p k <;> cases q k <;> rfl]
  cases decide (0 < cnt W fun k => q k && p k) <;> cases decide (0 < cnt W fun k => p k && !q k) <;> cases decide (0 < cnt W fun k => q k && !p k) <;> rfl
theorem within_two : (pWithin (W.filter p) (W.filter q) && pWithin (W.filter q) (W.filter p)) = decide (W.filter p = W.filter q) := by
  rw [within_both, within_both, show (fun k => q k && p k) = fun k => p k && q k from funext fun k => by cases p k <;> cases q k <;> rfl]
  by_cases h : W.filter p = W.filter q
  · rw [decide_eq_true h, Bool.and_eq_true, decide_eq_true_eq, decide_eq_true_eq]
    have e : W.filter (fun k => p k && q k) = W.filter p := by
      refine List.filter_congr fun k hk => ?_
      have : k ∈ W.filter p ↔ k ∈ W.filter q := by rw [h]
      simp only [List.mem_filter, hk, true_and] at this
      cases e1 : p k <;> cases e2 : q k <;> simp [e1, e2] at this ⊢
    exact ⟨e, e.trans h⟩
  · rw [decide_eq_false h, Bool.and_eq_false_imp]
    intro h1
    rw [decide_eq_true_eq] at h1
    exact decide_eq_false fun h2 => h (h1.symm.trans h2)
theorem within_trans (h1 : pWithin (W.filter p) (W.filter q) = true) (h2 : pWithin (W.filter q) (W.filter r) = true) : pWithin (W.filter p) (W.filter r) = true := by
  rw [within_iff, List.all_eq_true] at *
  intro k hk
  have a1 := h1 k hk
  have a2 := h2 k hk
  cases e1 : p k <;> cases e2 : q k <;> cases e3 : r k <;> simp [e1, e2, e3] at a1 a2 ⊢
end
end
end L06

namespace L06
open PySem PySem.Spec PyProof.Rows L2 Kq StX ClX
section
variable {P : Program} {w : World} {K : PySem.W.Frag} {mg : Str → Option Value} {base : Heap}
section
variable {C_Group : Addr} {f : Addr} {fd : FuncData}
/-- what Group's operators and methods promise -/
structure GOps (P : Program) (w : World) (K : PySem.W.Frag) (mg : Str → Option Value) (base : Heap) (C : Addr) : Prop where
  B_and : MProm P w K mg base 4 C "__and__" (spBin C pAnd)
  B_or : MProm P w K mg base 4 C "__or__" (spBin C pOr)
  B_sub : MProm P w K mg base 4 C "__sub__" (spBin C pSub)
  B_xor : MProm P w K mg base 4 C "__xor__" (spBin C pXor)
  E_ : EqProm P w K mg base 1 C (spGEq C)
  L_ : MProm P w K mg base 1 C "__len__" (spLenF K C "row")
  N_ : MProm P w K mg base 1 C "__contains__" (spContains C)
  I_ : ItProm P w K mg base 1 C "row"
  slf : PySem.W.selfFirst K C = true
  P_within : MtProm P w K mg base 1 C "within" (spAsk C pWithin)
  P_overlaps : MtProm P w K mg base 1 C "overlaps" (spAsk C pOver)
  P_is_ahead : MtProm P w K mg base 1 C "is_ahead" (spAsk C aheadR)
  nr : NoAttr K C "row"
def Grps (C : Addr) (H : Hp) (vs : List V) (rs : List (List Str)) : Prop := ∃ W, Uni W ∧ (∀ r ∈ rs, ∃ p, r = W.filter p)
theorem eqT_go {W : List Str} {C a b : Addr} {H : Hp} {Q : VK} {p q : Str → Bool} (ha : GP C W H a p) (hb : GP C W H b q) (e : ∀ k, p k = q k) (go : Q (.bl true) H) : rOwn K C (spGEq C) false (.ref a) (.ref b) H Q :=
  eq_go ha hb (neg := false) (by show Q (.bl (decide (W.filter p = W.filter q))) H; rw [feq e]; exact go)
theorem within_none {t : Addr} : ([("row", V.ref t)] : List (Str × V)).lookup ("within" : Str) = none := by first | rfl | kernel_rfl
theorem overlaps_none {t : Addr} : ([("row", V.ref t)] : List (Str × V)).lookup ("overlaps" : Str) = none := by first | rfl | kernel_rfl
theorem ahead_none {t : Addr} : ([("row", V.ref t)] : List (Str × V)).lookup ("is_ahead" : Str) = none := by first | rfl | kernel_rfl
theorem ins_row {C a : Addr} {H : Hp} {r : List Str} (h : GrpAt C H a r) : ∃ dx t, H a = some (.ins C dx [("row", .ref t)]) := by
  obtain ⟨dx, t, h1, _⟩ := h
  exact ⟨_, _, h1⟩
theorem ask_go {C a b : Addr} {H : Hp} {Q : VK} {r1 r2 : List Str} {f : List Str → List Str → Bool} (ha : GrpAt C H a r1) (hb : GrpAt C H b r2) (l1 : r1.length ≤ 24) (l2 : r2.length ≤ 24) (go : ∀ H', Same H H' → Q (.bl (f r1 r2)) H') : spAsk C f [.ref a, .ref b] H Q E0 :=
  ⟨a, b, _, _, rfl, ha, hb, l1, l2, go⟩
def spThree (C : Addr) : Sp := fun vs H Q _ => ∃ W a b c p q r, Uni W ∧ vs = [.ref a, .ref b, .ref c] ∧ GP C W H a p ∧ GP C W H b q ∧ GP C W H c r ∧ ∀ H', Same H H' → Q (.bl true) H'
theorem ok_three (F : Fun K "_law_three" "_law_three" st_three f fd) (S_Group : ClsI K mg "Group" C_Group) (O : GOps P w K mg base C_Group) : FnOk P w K mg base CX0 5 f fd ps_three (spThree C_Group) := by
  refine F.ok sc_three (fun vs H Q E h => ?_) (fun cdv A outer s H vs Q E hr h => ?_)
  · obtain ⟨W, a, b, c, p, q, r, U, rfl, _⟩ := h
    rfl
  · obtain ⟨W, a, b, c, p, q, r, U, rfl, ha, hb, hc, k⟩ := h
    have hu := hr.units
    have P_Group_within := O.P_within
    have P_Group_is_ahead := O.P_is_ahead
    refine ⟨_, (pss_cons (ps_if (PW.pt (pw_or (pt_not (pt_cmpR (opOE O.E_ hr (by decide) (K := K)) (pe_op (opBO O.B_and hr (by decide) O.slf) (pe_op (opBO O.B_and hr (by decide) O.slf) (pv 0) (pv 1)) (pv 2)) (pe_op (opBO O.B_and hr (by decide) O.slf) (pv 0) (pe_op (opBO O.B_and hr (by decide) O.slf) (pv 1) (pv 2))) (by first | exact nomark _ | rfl))) (pw_or1 (pt_not (pt_cmpR (opOE O.E_ hr (by decide) (K := K)) (pe_op (opBO O.B_or hr (by decide) O.slf) (pe_op (opBO O.B_or hr (by decide) O.slf) (pv 0) (pv 1)) (pv 2)) (pe_op (opBO O.B_or hr (by decide) O.slf) (pv 0) (pe_op (opBO O.B_or hr (by decide) O.slf) (pv 1) (pv 2))) (by first | exact nomark _ | rfl)))))) (pss_one (ps_ret pe_bl)) pss_nil) (pss_cons (ps_if (PW.pt (pw_or (pt_not (pt_cmpR (opOE O.E_ hr (by decide) (K := K)) (pe_op (opBO O.B_and hr (by decide) O.slf) (pv 0) (pe_op (opBO O.B_or hr (by decide) O.slf) (pv 1) (pv 2))) (pe_op (opBO O.B_or hr (by decide) O.slf) (pe_op (opBO O.B_and hr (by decide) O.slf) (pv 0) (pv 1)) (pe_op (opBO O.B_and hr (by decide) O.slf) (pv 0) (pv 2))) (by first | exact nomark _ | rfl))) (pw_or1 (pt_not (pt_cmpR (opOE O.E_ hr (by decide) (K := K)) (pe_op (opBO O.B_sub hr (by decide) O.slf) (pv 0) (pe_op (opBO O.B_or hr (by decide) O.slf) (pv 1) (pv 2))) (pe_op (opBO O.B_sub hr (by decide) O.slf) (pe_op (opBO O.B_sub hr (by decide) O.slf) (pv 0) (pv 1)) (pv 2)) (by first | exact nomark _ | rfl)))))) (pss_one (ps_ret pe_bl)) pss_nil) (pss_cons (ps_if (PW.pt (pw_or (pt_not (pt_cmpR (opOE O.E_ hr (by decide) (K := K)) (pe_op (opBO O.B_xor hr (by decide) O.slf) (pe_op (opBO O.B_xor hr (by decide) O.slf) (pv 0) (pv 1)) (pv 2)) (pe_op (opBO O.B_xor hr (by decide) O.slf) (pv 0) (pe_op (opBO O.B_xor hr (by decide) O.slf) (pv 1) (pv 2))) (by first | exact nomark _ | rfl))) (pw_or1 (pt_not (pt_cmpR (opOE O.E_ hr (by decide) (K := K)) (pe_op (opBO O.B_sub hr (by decide) O.slf) (pv 0) (pe_op (opBO O.B_sub hr (by decide) O.slf) (pv 0) (pv 1))) (pe_op (opBO O.B_and hr (by decide) O.slf) (pv 0) (pv 1)) (by first | exact nomark _ | rfl)))))) (pss_one (ps_ret pe_bl)) pss_nil) (C8.pss_cut (ps_if (PW.pt (pw_and (pt_truth (pe_mt P_Group_is_ahead S_Group.cl hr (by decide) (pv 0) (pa_cons (pv 1) pa_nil)) (fun _ => rfl)) (pw_and (pt_truth (pe_mt P_Group_is_ahead S_Group.cl hr (by decide) (pv 1) (pa_cons (pv 2) pa_nil)) (fun _ => rfl)) (pw_and1 (pt_not (pt_truth (pe_mt P_Group_is_ahead S_Group.cl hr (by decide) (pv 0) (pa_cons (pv 2) pa_nil)) (fun _ => rfl))))))) (pss_one (ps_ret pe_bl)) pss_nil) (pss_one (ps_ret (pe_or (pe_not (pe_and (pe_mt P_Group_within S_Group.cl hr (by decide) (pv 0) (pa_cons (pv 1) pa_nil)) (pe_one (pe_mt P_Group_within S_Group.cl hr (by decide) (pv 1) (pa_cons (pv 2) pa_nil))))) (pe_one (pe_mt P_Group_within S_Group.cl hr (by decide) (pv 0) (pa_cons (pv 2) pa_nil)))))))))), ?_⟩
    have ha0 := ha
    have hb0 := hb
    have hc0 := hc
    have S : Same H H := fun _ _ e => e
    refine ⟨_, rfl, _, rfl, and_go U ha hb fun g1 H1 s1 h1 => ?_⟩
    refine ⟨_, rfl, and_go U h1 (hc.mono s1) fun g2 H2 s2 h2 => ?_⟩
    refine ⟨_, rfl, _, rfl, _, rfl, and_go U (hb.mono (s1.trans s2)) (hc.mono (s1.trans s2)) fun g3 H3 s3 h3 => ?_⟩
    refine and_go U (ha.mono ((s1.trans s2).trans s3)) h3 fun g4 H4 s4 h4 => ?_
    refine eqT_go (h2.mono (s3.trans s4)) h4 (fun k => by cases p k <;> cases q k <;> cases r k <;> rfl) ⟨_, rfl, iteF ?_⟩
    replace ha := (ha.mono (((s1.trans s2).trans s3).trans s4))
    replace hb := (hb.mono (((s1.trans s2).trans s3).trans s4))
    replace hc := (hc.mono (((s1.trans s2).trans s3).trans s4))
    replace S := S.trans (((s1.trans s2).trans s3).trans s4)
    refine ⟨_, rfl, _, rfl, or_go U ha hb fun g5 H5 s5 h5 => ?_⟩
    refine ⟨_, rfl, or_go U h5 (hc.mono s5) fun g6 H6 s6 h6 => ?_⟩
    refine ⟨_, rfl, _, rfl, _, rfl, or_go U (hb.mono (s5.trans s6)) (hc.mono (s5.trans s6)) fun g7 H7 s7 h7 => ?_⟩
    refine or_go U (ha.mono ((s5.trans s6).trans s7)) h7 fun g8 H8 s8 h8 => ?_
    refine eqT_go (h6.mono (s7.trans s8)) h8 (fun k => by cases p k <;> cases q k <;> cases r k <;> rfl) ⟨_, rfl, iteF ?_⟩
    replace ha := (ha.mono (((s5.trans s6).trans s7).trans s8))
    replace hb := (hb.mono (((s5.trans s6).trans s7).trans s8))
    replace hc := (hc.mono (((s5.trans s6).trans s7).trans s8))
    replace S := S.trans (((s5.trans s6).trans s7).trans s8)
    refine ⟨_, rfl, _, rfl, _, rfl, or_go U hb hc fun g9 H9 s9 h9 => ?_⟩
    refine and_go U (ha.mono s9) h9 fun g10 H10 s10 h10 => ?_
    refine ⟨_, rfl, _, rfl, and_go U (ha.mono (s9.trans s10)) (hb.mono (s9.trans s10)) fun g11 H11 s11 h11 => ?_⟩
    refine ⟨_, rfl, _, rfl, and_go U (ha.mono ((s9.trans s10).trans s11)) (hc.mono ((s9.trans s10).trans s11)) fun g12 H12 s12 h12 => ?_⟩
    refine or_go U (h11.mono s12) h12 fun g13 H13 s13 h13 => ?_
    refine eqT_go (h10.mono ((s11.trans s12).trans s13)) h13 (fun k => by cases p k <;> cases q k <;> cases r k <;> rfl) ⟨_, rfl, iteF ?_⟩
    replace ha := (ha.mono ((((s9.trans s10).trans s11).trans s12).trans s13))
    replace hb := (hb.mono ((((s9.trans s10).trans s11).trans s12).trans s13))
    replace hc := (hc.mono ((((s9.trans s10).trans s11).trans s12).trans s13))
    replace S := S.trans ((((s9.trans s10).trans s11).trans s12).trans s13)
    refine ⟨_, rfl, _, rfl, _, rfl, or_go U hb hc fun g14 H14 s14 h14 => ?_⟩
    refine sub_go U (ha.mono s14) h14 fun g15 H15 s15 h15 => ?_
    refine ⟨_, rfl, _, rfl, sub_go U (ha.mono (s14.trans s15)) (hb.mono (s14.trans s15)) fun g16 H16 s16 h16 => ?_⟩
    refine ⟨_, rfl, sub_go U h16 (hc.mono ((s14.trans s15).trans s16)) fun g17 H17 s17 h17 => ?_⟩
    refine eqT_go (h15.mono (s16.trans s17)) h17 (fun k => by cases p k <;> cases q k <;> cases r k <;> rfl) ⟨_, rfl, iteF ?_⟩
    replace ha := (ha.mono (((s14.trans s15).trans s16).trans s17))
    replace hb := (hb.mono (((s14.trans s15).trans s16).trans s17))
    replace hc := (hc.mono (((s14.trans s15).trans s16).trans s17))
    replace S := S.trans (((s14.trans s15).trans s16).trans s17)
    refine ⟨_, rfl, _, rfl, xor_go U ha hb fun g18 H18 s18 h18 => ?_⟩
    refine ⟨_, rfl, xor_go U h18 (hc.mono s18) fun g19 H19 s19 h19 => ?_⟩
    refine ⟨_, rfl, _, rfl, _, rfl, xor_go U (hb.mono (s18.trans s19)) (hc.mono (s18.trans s19)) fun g20 H20 s20 h20 => ?_⟩
    refine xor_go U (ha.mono ((s18.trans s19).trans s20)) h20 fun g21 H21 s21 h21 => ?_
    refine eqT_go (h19.mono (s20.trans s21)) h21 (fun k => by cases p k <;> cases q k <;> cases r k <;> rfl) ⟨_, rfl, iteF ?_⟩
    replace ha := (ha.mono (((s18.trans s19).trans s20).trans s21))
    replace hb := (hb.mono (((s18.trans s19).trans s20).trans s21))
    replace hc := (hc.mono (((s18.trans s19).trans s20).trans s21))
    replace S := S.trans (((s18.trans s19).trans s20).trans s21)
    refine ⟨_, rfl, _, rfl, _, rfl, sub_go U ha hb fun g22 H22 s22 h22 => ?_⟩
    refine sub_go U (ha.mono s22) h22 fun g23 H23 s23 h23 => ?_
    refine ⟨_, rfl, _, rfl, and_go U (ha.mono (s22.trans s23)) (hb.mono (s22.trans s23)) fun g24 H24 s24 h24 => ?_⟩
    refine eqT_go (h23.mono s24) h24 (fun k => by cases p k <;> cases q k <;> cases r k <;> rfl) ⟨_, rfl, iteF ?_⟩
    replace ha := (ha.mono ((s22.trans s23).trans s24))
    replace hb := (hb.mono ((s22.trans s23).trans s24))
    replace hc := (hc.mono ((s22.trans s23).trans s24))
    replace S := S.trans ((s22.trans s23).trans s24)

    refine ⟨fun σ' H' => Same H H' ∧ σ' = [some (.ref a), some (.ref b), some (.ref c)], ?_, ?_⟩
    · obtain ⟨dx, t, hg⟩ := ins_row ha
      refine ⟨_, rfl, a, dx, _, rfl, hg, ahead_none, _, rfl, a, b, _, _, rfl, ha, hb, U.flen, U.flen, fun H1 s1 => ⟨_, rfl, ?_⟩⟩
      refine ite2 (fun e1 => ?_) (fun e1 => ⟨S.trans s1, rfl⟩)
      obtain ⟨dx, t, hg⟩ := ins_row (hb.mono s1)
      refine ⟨_, rfl, b, dx, _, rfl, hg, ahead_none, _, rfl, b, c, _, _, rfl, (hb.mono s1), (hc.mono s1), U.flen, U.flen, fun H2 s2 => ⟨_, rfl, ?_⟩⟩
      refine ite2 (fun e2 => ?_) (fun e2 => ⟨S.trans (s1.trans s2), rfl⟩)
      obtain ⟨dx, t, hg⟩ := ins_row (ha.mono (s1.trans s2))
      refine ⟨_, rfl, a, dx, _, rfl, hg, ahead_none, _, rfl, a, c, _, _, rfl, (ha.mono (s1.trans s2)), (hc.mono (s1.trans s2)), U.flen, U.flen, fun H3 s3 => ⟨_, rfl, ?_⟩⟩
      rw [ahead_trans e1 e2]
      exact iteF ⟨S.trans ((s1.trans s2).trans s3), rfl⟩
    rintro σ' H0 ⟨s0, rfl⟩
    replace ha := ha0.mono s0
    replace hb := hb0.mono s0
    replace hc := hc0.mono s0
    obtain ⟨dx, t, hg⟩ := ins_row ha
    refine ⟨_, rfl, a, dx, _, rfl, hg, within_none, _, rfl, a, b, _, _, rfl, ha, hb, U.flen, U.flen, fun H1 s1 => ⟨_, rfl, ?_⟩⟩
    replace ha := ha.mono s1
    replace hb := hb.mono s1
    replace hc := hc.mono s1
    have fin : ∀ H', Same H1 H' → Q (.bl true) H' := fun H' s' => k H' ((s0.trans s1).trans s')
    have last : pWithin (W.filter p) (W.filter q) = true → pWithin (W.filter q) (W.filter r) = true → pWithin (W.filter p) (W.filter r) = true := within_trans
    refine ite2 (fun e1 => ?_) (fun e1 => ?_)
    · obtain ⟨dx, t, hg⟩ := ins_row hb
      refine ⟨_, rfl, b, dx, _, rfl, hg, within_none, _, rfl, b, c, _, _, rfl, hb, hc, U.flen, U.flen, fun H2 s2 => ⟨_, rfl, _, rfl, ?_⟩⟩
      cases e2 : pWithin (W.filter q) (W.filter r) with
      | false => exact iteT (fin _ s2)
      | true =>
        refine iteF ?_
        replace ha := ha.mono s2
        replace hc := hc.mono s2
        obtain ⟨dx, t, hg⟩ := ins_row ha
        refine ⟨_, rfl, a, dx, _, rfl, hg, within_none, _, rfl, a, c, _, _, rfl, ha, hc, U.flen, U.flen, fun H3 s3 => ?_⟩
        rw [within_trans e1 e2]
        exact fin _ (s2.trans s3)
    · refine ⟨_, rfl, _, rfl, ?_⟩
      exact iteT (fin _ fun _ _ e => e)
end
end
end L06

namespace L06
open PySem PySem.Spec PyProof.Rows L2 Kq StX ClX
section
variable {P : Program} {w : World} {K : PySem.W.Frag} {mg : Str → Option Value} {base : Heap}
section
variable {C_Group : Addr} {f : Addr} {fd : FuncData}
theorem neI {i j : Int} (h : i = j) : (!decide (V.int i = V.int j)) = false := by rw [h]; simp
theorem neB {i j : Bool} (h : i = j) : (!decide (V.bl i = V.bl j)) = false := by rw [h]; simp
theorem dInt0 {n : Nat} : decide (V.int (n : Int) = V.int 0) = decide (n = 0) := decide_eq_decide.mpr ⟨fun h => by have := V.int.inj h; omega, fun h => by rw [h]; rfl⟩
theorem len_A {σ : L2.St} {C a : Addr} {H : Hp} {Q : VK} {r1 : List Str} (ha : GrpAt C H a r1) (hl : r1.length ≤ 24) (go : Q (.int (r1.length : Int)) H) : tNil σ H (fun xs H2 => rLenOwn C (spLenF K C "row") (V.ref a :: xs) H2 Q) := len_go ha hl go
theorem within_len {W : List Str} {p q : Str → Bool} : pWithin (W.filter p) (W.filter q) = decide (V.int ((W.filter fun k => p k && !q k).length : Int) = V.int 0) := within_left.trans dInt0.symm
theorem neS {i j : Str} (h : i = j) : (!decide (V.str i = V.str j)) = false := by rw [h]; simp
theorem get_map_bl {bs : List Bool} {i : Nat} {v : V} (h : (bs.map V.bl)[i]? = some v) : ∃ b, bs[i]? = some b ∧ v = .bl b := by
  rw [List.getElem?_map] at h
  cases e : bs[i]? with
  | none => rw [e] at h; cases h
  | some w => rw [e] at h; cases h; exact ⟨w, rfl, rfl⟩
def b2i (b : Bool) : Int := if b = true then 1 else 0
theorem one_only {A E B : Bool} (h : b2i A + b2i E + b2i B = 1) {ns : List Int} (pm : ns.Perm ([A, E, B].map b2i)) (so : ns.Pairwise (· ≤ ·)) : ns = [0, 0, 1] := by
  have pm2 : ([A, E, B].map b2i).Perm [0, 0, 1] := by
    cases A <;> cases E <;> cases B <;> first | (exact absurd h (by decide)) | decide
  exact (pm.trans pm2).eq_of_pairwise (fun a b _ _ h1 h2 => Int.le_antisymm h1 h2) so (by decide)
theorem ahead_one {W : List Str} {p q : Str → Bool} : b2i (aheadR (W.filter p) (W.filter q)) + b2i (decide (W.filter p = W.filter q)) + b2i (aheadR (W.filter q) (W.filter p)) = 1 := by
  by_cases e : W.filter p = W.filter q
  · rw [e, ahead_irrefl, decide_eq_true rfl]
    rfl
  · rw [decide_eq_false e]
    cases h1 : aheadR (W.filter p) (W.filter q) with
    | true => rw [ahead_asymm h1]; rfl
    | false =>
      cases h2 : aheadR (W.filter q) (W.filter p) with
      | true => rfl
      | false => exact absurd (ahead_tri h1 h2) e
theorem dqs_bools {T : Tb} {H : Hp} : ∀ (xs : List Bool), Dqs T H (xs.map V.bl) (xs.map PyData.bool)
  | [] => .nil
  | x :: xs => .cons (.bl x) (dqs_bools xs)
theorem sm_bools {xs : List Bool} : ∀ d ∈ xs.map PyData.bool, Sm d := fun d hd => by
  obtain ⟨b, _, rfl⟩ := List.mem_map.mp hd
  exact sm_bool b
theorem pairs_ok {r1 r2 : List Str} (h1 : ∀ s ∈ r1, IsW s) (h2 : ∀ s ∈ r2, IsW s) : ∀ s ∈ pairsOf r1 r2, PyData.strOk s = true := by
  intro s hs
  unfold pairsOf at hs
  obtain ⟨l, hl, hs⟩ := List.mem_flatten.mp hs
  obtain ⟨a, ha, rfl⟩ := List.mem_map.mp hl
  obtain ⟨b, hb, rfl⟩ := List.mem_map.mp hs
  unfold PyData.strOk
  rw [← Array.all_toList, List.all_eq_true]
  intro c hc
  rw [str_app, str_app, List.mem_append, List.mem_append] at hc
  rw [decide_eq_true_eq]
  rcases hc with (hc | hc) | hc
  · have := (h1 a ha).2.2 c hc
    omega
  · have : blk.cps.toList = [32] := by decide +kernel
    rw [this, List.mem_singleton] at hc
    omega
  · have := (h2 b hb).2.2 c hc
    omega
theorem dp_strs {H : Hp} : ∀ (xs : List Str), DpAll K H (xs.map V.str) (xs.map PyData.str)
  | [] => .nil
  | x :: xs => .cons (.str x) (dp_strs xs)
theorem shaped_strs {xs : List Str} (h : ∀ s ∈ xs, PyData.strOk s = true) : SeqAt.shaped (.list (xs.map PyData.str)) = true := by
  unfold SeqAt.shaped PyData.canLay0 PyData.depth
  rw [canLayAll_strs', depthAll_strs', List.all_eq_true.mpr h]
  rfl
theorem neL_go {a b : Addr} {H : Hp} {Q : VK} {xs : List Str} (ha : H a = some (.lst (xs.map V.str))) (hb : H b = some (.lst (xs.map V.str))) (h : ∀ s ∈ xs, PyData.strOk s = true) (go : Q (.bl false) H) : rNeD K (.ref a) (.ref b) H Q := by
  refine ⟨.list (xs.map .str), .list (xs.map .str), .lst (SqL.of ha) (dp_strs xs), .lst (SqL.of hb) (dp_strs xs), shaped_strs h, shaped_strs h, ?_⟩
  rw [PyData.eqv, eqv_rows, decide_eq_true rfl]
  exact go
theorem depth_strsL (xs : List Str) : (PyData.list (xs.map PyData.str)).depth ≤ 60 := by
  show PyData.depthAll (xs.map PyData.str) + 1 ≤ 60
  rw [depthAll_strs']
  omega
def spTwo (C : Addr) : Sp := fun vs H Q _ => ∃ W a b p q, Uni W ∧ vs = [.ref a, .ref b] ∧ GP C W H a p ∧ GP C W H b q ∧ ∀ H', Same H H' → Q (.bl true) H'
theorem ok_two (F : Fun K "_law_two" "_law_two" st_two f fd) (T : Txt K mg) (S_Group : ClsI K mg "Group" C_Group) (O : GOps P w K mg base C_Group) (P_pairsO : Prom P w K mg base 2 "_law_pairs" ps_pairs (spPairsO C_Group)) (P_pairsT : Prom P w K mg base 1 "_law_pairs" ps_pairs spPairsT)
    (SY : ∃ o, base.get? sysModules = some o) : FnG P w K mg base CX0 5 f fd ps_two (spTwo C_Group) := by
  refine Kq.Fun.okN F sc_two (fun vs H Q E h => ?_) (fun cdv A outer s H vs Q E hgd hr h => ?_)
  · obtain ⟨W, a, b, p, q, U, rfl, _⟩ := h
    rfl
  · obtain ⟨W, a, b, p, q, U, rfl, ha, hb, k⟩ := h
    have hu := hr.units
    have P_Group_within := O.P_within
    have P_Group_overlaps := O.P_overlaps
    have P_Group_is_ahead := O.P_is_ahead
    have I_Group := O.I_
    have nr := O.nr
    refine ⟨_, (pss_cons (ps_asg (pe_tup (pa_cons (pe_op (opBO O.B_and hr (by decide) O.slf) (pv 0) (pv 1)) (pa_cons (pe_op (opBO O.B_or hr (by decide) O.slf) (pv 0) (pv 1)) pa_nil))) (pg_tup rfl (pgs_cons (pg_name (i := 2) sc_two.nd rfl (by first | exact Or.inl rfl | exact Or.inr rfl)) (pgs_cons (pg_name (i := 3) sc_two.nd rfl (by first | exact Or.inl rfl | exact Or.inr rfl)) pgs_nil)))) (pss_cons (ps_par (i := 4) (j := 5) rfl sc_two.nd rfl rfl (by decide) rfl rfl (pa_cons (pe_op (opBO O.B_sub hr (by decide) O.slf) (pv 0) (pv 1)) (pa_cons (pe_op (opBO O.B_sub hr (by decide) O.slf) (pv 1) (pv 0)) pa_nil)) rfl) (pss_cons (ps_if (PW.pt (pw_or (pt_not (pt_cmpR (opOE O.E_ hr (by decide) (K := K)) (pe_op (opBO O.B_or hr (by decide) O.slf) (pv 2) (pv 4)) (pv 0) (by first | exact nomark _ | rfl))) (pw_or (pt_not (pt_cmpR (opOE O.E_ hr (by decide) (K := K)) (pe_op (opBO O.B_or hr (by decide) O.slf) (pv 2) (pv 5)) (pv 1) (by first | exact nomark _ | rfl))) (pw_or1 (pt_not (pt_cmpR (opOE O.E_ hr (by decide) (K := K)) (pe_op (opBO O.B_or hr (by decide) O.slf) (pv 4) (pv 1)) (pv 3) (by first | exact nomark _ | rfl))))))) (pss_one (ps_ret pe_bl)) pss_nil) (pss_cons (ps_set (i := 6) sc_two.nd rfl (by first | exact Or.inl rfl | exact Or.inr rfl) (pe_op (opBO O.B_xor hr (by decide) O.slf) (pv 0) (pv 1))) (pss_cons (ps_if (PW.pt (pw_or (pt_not (pt_cmpR (opOE O.E_ hr (by decide) (K := K)) (pe_op (opBO O.B_sub hr (by decide) O.slf) (pv 3) (pv 2)) (pv 6) (by first | exact nomark _ | rfl))) (pw_or (pt_not (pt_cmpR (opOE O.E_ hr (by decide) (K := K)) (pe_op (opBO O.B_or hr (by decide) O.slf) (pv 4) (pv 5)) (pv 6) (by first | exact nomark _ | rfl))) (pw_or1 (pt_not (pt_cmpR (opOE O.E_ hr (by decide) (K := K)) (pv 6) (pe_op (opBO O.B_xor hr (by decide) O.slf) (pv 1) (pv 0)) (by first | exact nomark _ | rfl))))))) (pss_one (ps_ret pe_bl)) pss_nil) (pss_cons (ps_if (PW.pt (pw_or (pt_not (pt_cmpR (opOE O.E_ hr (by decide) (K := K)) (pv 2) (pe_op (opBO O.B_and hr (by decide) O.slf) (pv 1) (pv 0)) (by first | exact nomark _ | rfl))) (pw_or (pt_not (pt_cmpR (opOE O.E_ hr (by decide) (K := K)) (pv 3) (pe_op (opBO O.B_or hr (by decide) O.slf) (pv 1) (pv 0)) (by first | exact nomark _ | rfl))) (pw_or1 (pt_not (pt_cmpR (opOE O.E_ hr (by decide) (K := K)) (pe_op (opBO O.B_xor hr (by decide) O.slf) (pe_op (opBO O.B_xor hr (by decide) O.slf) (pv 0) (pv 1)) (pv 1)) (pv 0) (by first | exact nomark _ | rfl))))))) (pss_one (ps_ret pe_bl)) pss_nil) (pss_cons (ps_if (PW.pt (pw_or (pt_cmpR (opNeP (K := K) hu) (pe_op (opAddP (K := K)) (pe_callB (callLO O.L_ hr (by decide)) rfl T.n_len (by decide +kernel) (pa_cons (pv 2) pa_nil)) (pe_callB (callLO O.L_ hr (by decide)) rfl T.n_len (by decide +kernel) (pa_cons (pv 3) pa_nil))) (pe_op (opAddP (K := K)) (pe_callB (callLO O.L_ hr (by decide)) rfl T.n_len (by decide +kernel) (pa_cons (pv 0) pa_nil)) (pe_callB (callLO O.L_ hr (by decide)) rfl T.n_len (by decide +kernel) (pa_cons (pv 1) pa_nil))) (by first | exact nomark _ | rfl)) (pw_or1 (pt_cmpR (opNeP (K := K) hu) (pe_callB (callLO O.L_ hr (by decide)) rfl T.n_len (by decide +kernel) (pa_cons (pe_op (opBO O.B_and hr (by decide) O.slf) (pv 4) (pv 5)) pa_nil)) pe_int (by first | exact nomark _ | rfl))))) (pss_one (ps_ret pe_bl)) pss_nil) (pss_cons (ps_if (PW.pt (pw_or (pt_cmpR (opNeP (K := K) hu) (pe_mt P_Group_within S_Group.cl hr (by decide) (pv 0) (pa_cons (pv 1) pa_nil)) (pe_cmpR (opEqP tbF hu) (pe_callB (callLO O.L_ hr (by decide)) rfl T.n_len (by decide +kernel) (pa_cons (pv 4) pa_nil)) pe_int (by first | exact nomark _ | rfl)) (by first | exact nomark _ | rfl)) (pw_or1 (pt_cmpR (opNeP (K := K) hu) (pe_mt P_Group_within S_Group.cl hr (by decide) (pv 0) (pa_cons (pv 1) pa_nil)) (pe_cmpR (opOE O.E_ hr (by decide) (K := K)) (pv 2) (pv 0) (by first | exact nomark _ | rfl)) (by first | exact nomark _ | rfl))))) (pss_one (ps_ret pe_bl)) pss_nil) (C8.pss_cut (ps_if (pt_cmpR (opNeP (K := K) hu) (pe_mt P_Group_overlaps S_Group.cl hr (by decide) (pv 0) (pa_cons (pv 1) pa_nil)) (pe_and (pe_cmpR opGtP (pe_callB (callLO O.L_ hr (by decide)) rfl T.n_len (by decide +kernel) (pa_cons (pv 2) pa_nil)) pe_int (by first | exact nomark _ | rfl)) (pe_and (pe_cmpR opGtP (pe_callB (callLO O.L_ hr (by decide)) rfl T.n_len (by decide +kernel) (pa_cons (pv 4) pa_nil)) pe_int (by first | exact nomark _ | rfl)) (pe_one (pe_cmpR opGtP (pe_callB (callLO O.L_ hr (by decide)) rfl T.n_len (by decide +kernel) (pa_cons (pv 5) pa_nil)) pe_int (by first | exact nomark _ | rfl))))) (by first | exact nomark _ | rfl)) (pss_one (ps_ret pe_bl)) pss_nil) (C8.pss_cut (ps_if (PW.pt (pw_or (pt_cmpR (opNeP (K := K) hu) (pe_mt P_Group_overlaps S_Group.cl hr (by decide) (pv 0) (pa_cons (pv 1) pa_nil)) (pe_mt P_Group_overlaps S_Group.cl hr (by decide) (pv 1) (pa_cons (pv 0) pa_nil)) (by first | exact nomark _ | rfl)) (pw_or1 (pt_cmpR (opNeP (K := K) hu) (pe_and (pe_mt P_Group_within S_Group.cl hr (by decide) (pv 0) (pa_cons (pv 1) pa_nil)) (pe_one (pe_mt P_Group_within S_Group.cl hr (by decide) (pv 1) (pa_cons (pv 0) pa_nil)))) (pe_cmpR (opOE O.E_ hr (by decide) (K := K)) (pv 0) (pv 1) (by first | exact nomark _ | rfl)) (by first | exact nomark _ | rfl))))) (pss_one (ps_ret pe_bl)) pss_nil) (pss_cons (ps_set (i := 7) sc_two.nd rfl (by first | exact Or.inl rfl | exact Or.inr rfl) (pe_lst (pa_cons (pe_mt P_Group_is_ahead S_Group.cl hr (by decide) (pv 0) (pa_cons (pv 1) pa_nil)) (pa_cons (pe_cmpR (opOE O.E_ hr (by decide) (K := K)) (pv 0) (pv 1) (by first | exact nomark _ | rfl)) (pa_cons (pe_mt P_Group_is_ahead S_Group.cl hr (by decide) (pv 1) (pa_cons (pv 0) pa_nil)) pa_nil))))) (pss_cons (ps_if (pt_cmpR (opNeP (K := K) hu) (pe_callB (call_repr SY tbF hgd hu) rfl T.n_repr (by decide +kernel) (pa_cons (pe_callB cr_sorted rfl T.n_sorted (by decide +kernel) (pa_cons (pe_lc (own := [("_law_each", 8)]) rfl sc_two.nd (pi_listP (K := K) (pv 7)) (blkOk_by (N := N_two) (sc := defScope st_two) (by decide +kernel)) (fun _ _ _ _ _ => (pg_name (i := 8) sc_two.nd rfl (by first | exact Or.inl rfl | exact Or.inr rfl))) (fun _ _ _ _ _ => pts_nil) (fun _ _ _ _ _ => (pe_callTy call_int1 rfl T.n_int (by decide +kernel) (pa_cons (pv 8) pa_nil)))) pa_nil)) pa_nil)) pe_str (by first | exact nomark _ | rfl)) (pss_one (ps_ret pe_bl)) pss_nil) (C8.pss_cut (ps_if (PW.pt (pw_and (pt_cmpR opLtP (pe_callB (callLO O.L_ hr (by decide)) rfl T.n_len (by decide +kernel) (pa_cons (pv 0) pa_nil)) (pe_callB (callLO O.L_ hr (by decide)) rfl T.n_len (by decide +kernel) (pa_cons (pv 1) pa_nil)) (by first | exact nomark _ | rfl)) (pw_and1 (pt_not (pt_truth (pe_mt P_Group_is_ahead S_Group.cl hr (by decide) (pv 0) (pa_cons (pv 1) pa_nil)) (fun _ => rfl)))))) (pss_one (ps_ret pe_bl)) pss_nil) (pss_cons (ps_if (pt_cmpR (opNeP (K := K) hu) (pe_callB (call_repr SY tbF hgd hu) rfl T.n_repr (by decide +kernel) (pa_cons (pe_lc (own := [("_law_word_here", 9)]) rfl sc_two.nd (pi_tupP (K := K) (pe_fldP (K := K) (pv 0) rfl)) (blkOk_by (N := N_two) (sc := defScope st_two) (by decide +kernel)) (fun _ _ _ _ _ => (pg_name (i := 9) sc_two.nd rfl (by first | exact Or.inl rfl | exact Or.inr rfl))) (fun _ _ _ _ _ => pts_nil) (fun _ _ _ _ _ => (pe_cmpR (opInO O.N_ hr (by decide)) (pv 9) (pv 2) (by first | exact nomark _ | rfl)))) pa_nil)) (pe_callB (call_repr SY tbF hgd hu) rfl T.n_repr (by decide +kernel) (pa_cons (pe_lc (own := [("_law_word_here", 9)]) rfl sc_two.nd (pi_own (K := K) I_Group hr (by decide) (pv 0)) (blkOk_by (N := N_two) (sc := defScope st_two) (by decide +kernel)) (fun _ _ _ _ _ => (pg_name (i := 9) sc_two.nd rfl (by first | exact Or.inl rfl | exact Or.inr rfl))) (fun _ _ _ _ _ => pts_nil) (fun _ _ _ _ _ => (pe_cmpR (opInO O.N_ hr (by decide)) (pv 9) (pv 1) (by first | exact nomark _ | rfl)))) pa_nil)) (by first | exact nomark _ | rfl)) (pss_one (ps_ret pe_bl)) pss_nil) (pss_cons (ps_if (pt_cmpR (opNeP (K := K) hu) (pe_p P_pairsO hr (by decide) (pa_cons (pv 0) (pa_cons (pv 0) pa_nil))) (pe_p P_pairsT hr (by decide) (pa_cons (pe_fldP (K := K) (pv 0) rfl) (pa_cons (pe_fldP (K := K) (pv 0) rfl) pa_nil))) (by first | exact nomark _ | rfl)) (pss_one (ps_ret pe_bl)) pss_nil) (pss_one (ps_ret (pe_cmpR (opEqP tbF hu) (pe_p P_pairsO hr (by decide) (pa_cons (pv 0) (pa_cons (pv 1) pa_nil))) (pe_p P_pairsT hr (by decide) (pa_cons (pe_fldP (K := K) (pv 0) rfl) (pa_cons (pe_fldP (K := K) (pv 1) rfl) pa_nil))) (by first | exact nomark _ | rfl))))))))))))))))))), ?_⟩
    have S : Same H H := fun _ _ e => e
    refine ⟨_, rfl, _, rfl, and_go U ha hb fun g1 H1 s1 h1 => ?_⟩
    refine ⟨_, rfl, _, rfl, or_go U (ha.mono s1) (hb.mono s1) fun g2 H2 s2 h2 => ?_⟩
    refine ⟨by show 2 ≤ sizeLine; decide, fun tp ntp => ?_⟩
    have s3 : Same H2 (upd H2 tp (HO.tup [.ref g1, .ref g2])) := Same.upd ntp
    refine ⟨tp, _, rfl, SqT.of upd_same, rfl, _, _, rfl, _, _, rfl, rfl, ?_⟩
    generalize upd H2 tp (HO.tup [.ref g1, .ref g2]) = H3 at s3 ⊢
    have hB := (h1.mono (s2.trans s3))
    have hE := (h2.mono s3)
    replace ha := (ha.mono ((s1.trans s2).trans s3))
    replace hb := (hb.mono ((s1.trans s2).trans s3))
    replace S := S.trans ((s1.trans s2).trans s3)
    refine ⟨_, rfl, _, rfl, sub_go U ha hb fun g4 H4 s4 h4 => ?_⟩
    refine ⟨_, rfl, _, rfl, sub_go U (hb.mono s4) (ha.mono s4) fun g5 H5 s5 h5 => ?_⟩
    refine ⟨_, _, rfl, ?_⟩
    have hL := (h4.mono s5)
    have hR := h5
    replace ha := (ha.mono (s4.trans s5))
    replace hb := (hb.mono (s4.trans s5))
    replace hB := (hB.mono (s4.trans s5))
    replace hE := (hE.mono (s4.trans s5))
    replace S := S.trans (s4.trans s5)
    refine ⟨_, rfl, _, rfl, or_go U hB hL fun g6 H6 s6 h6 => ?_⟩
    refine ⟨_, rfl, eqT_go h6 (ha.mono s6) (fun k => by cases p k <;> cases q k <;> rfl) ⟨_, rfl, iteF ?_⟩⟩
    replace ha := (ha.mono s6)
    replace hb := (hb.mono s6)
    replace hB := (hB.mono s6)
    replace hE := (hE.mono s6)
    replace hL := (hL.mono s6)
    replace hR := (hR.mono s6)
    replace S := S.trans s6
    refine ⟨_, rfl, _, rfl, or_go U hB hR fun g7 H7 s7 h7 => ?_⟩
    refine ⟨_, rfl, eqT_go h7 (hb.mono s7) (fun k => by cases p k <;> cases q k <;> rfl) ⟨_, rfl, iteF ?_⟩⟩
    replace ha := (ha.mono s7)
    replace hb := (hb.mono s7)
    replace hB := (hB.mono s7)
    replace hE := (hE.mono s7)
    replace hL := (hL.mono s7)
    replace hR := (hR.mono s7)
    replace S := S.trans s7
    refine ⟨_, rfl, _, rfl, or_go U hL hb fun g8 H8 s8 h8 => ?_⟩
    refine ⟨_, rfl, eqT_go h8 (hE.mono s8) (fun k => by cases p k <;> cases q k <;> rfl) ⟨_, rfl, iteF ?_⟩⟩
    replace ha := (ha.mono s8)
    replace hb := (hb.mono s8)
    replace hB := (hB.mono s8)
    replace hE := (hE.mono s8)
    replace hL := (hL.mono s8)
    replace hR := (hR.mono s8)
    replace S := S.trans s8
    refine ⟨_, rfl, _, rfl, xor_go U ha hb fun g9 H9 s9 h9 => ?_⟩
    have hO := h9
    replace ha := (ha.mono s9)
    replace hb := (hb.mono s9)
    replace hB := (hB.mono s9)
    replace hE := (hE.mono s9)
    replace hL := (hL.mono s9)
    replace hR := (hR.mono s9)
    replace S := S.trans s9
    refine ⟨_, rfl, _, rfl, sub_go U hE hB fun g10 H10 s10 h10 => ?_⟩
    refine ⟨_, rfl, eqT_go h10 (hO.mono s10) (fun k => by cases p k <;> cases q k <;> rfl) ⟨_, rfl, iteF ?_⟩⟩
    replace ha := (ha.mono s10)
    replace hb := (hb.mono s10)
    replace hB := (hB.mono s10)
    replace hE := (hE.mono s10)
    replace hL := (hL.mono s10)
    replace hR := (hR.mono s10)
    replace hO := (hO.mono s10)
    replace S := S.trans s10
    refine ⟨_, rfl, _, rfl, or_go U hL hR fun g11 H11 s11 h11 => ?_⟩
    refine ⟨_, rfl, eqT_go h11 (hO.mono s11) (fun k => by cases p k <;> cases q k <;> rfl) ⟨_, rfl, iteF ?_⟩⟩
    replace ha := (ha.mono s11)
    replace hb := (hb.mono s11)
    replace hB := (hB.mono s11)
    replace hE := (hE.mono s11)
    replace hL := (hL.mono s11)
    replace hR := (hR.mono s11)
    replace hO := (hO.mono s11)
    replace S := S.trans s11
    refine ⟨_, rfl, _, rfl, _, rfl, xor_go U hb ha fun g12 H12 s12 h12 => ?_⟩
    refine eqT_go (hO.mono s12) h12 (fun k => by cases p k <;> cases q k <;> rfl) ⟨_, rfl, iteF ?_⟩
    replace ha := (ha.mono s12)
    replace hb := (hb.mono s12)
    replace hB := (hB.mono s12)
    replace hE := (hE.mono s12)
    replace hL := (hL.mono s12)
    replace hR := (hR.mono s12)
    replace hO := (hO.mono s12)
    replace S := S.trans s12
    refine ⟨_, rfl, _, rfl, _, rfl, and_go U hb ha fun g13 H13 s13 h13 => ?_⟩
    refine eqT_go (hB.mono s13) h13 (fun k => by cases p k <;> cases q k <;> rfl) ⟨_, rfl, iteF ?_⟩
    replace ha := (ha.mono s13)
    replace hb := (hb.mono s13)
    replace hB := (hB.mono s13)
    replace hE := (hE.mono s13)
    replace hL := (hL.mono s13)
    replace hR := (hR.mono s13)
    replace hO := (hO.mono s13)
    replace S := S.trans s13
    refine ⟨_, rfl, _, rfl, _, rfl, or_go U hb ha fun g14 H14 s14 h14 => ?_⟩
    refine eqT_go (hE.mono s14) h14 (fun k => by cases p k <;> cases q k <;> rfl) ⟨_, rfl, iteF ?_⟩
    replace ha := (ha.mono s14)
    replace hb := (hb.mono s14)
    replace hB := (hB.mono s14)
    replace hE := (hE.mono s14)
    replace hL := (hL.mono s14)
    replace hR := (hR.mono s14)
    replace hO := (hO.mono s14)
    replace S := S.trans s14
    refine ⟨_, rfl, _, rfl, xor_go U ha hb fun g15 H15 s15 h15 => ?_⟩
    refine ⟨_, rfl, xor_go U h15 (hb.mono s15) fun g16 H16 s16 h16 => ?_⟩
    refine ⟨_, rfl, eqT_go h16 (ha.mono (s15.trans s16)) (fun k => by cases p k <;> cases q k <;> rfl) ⟨_, rfl, iteF ?_⟩⟩
    replace ha := (ha.mono (s15.trans s16))
    replace hb := (hb.mono (s15.trans s16))
    replace hB := (hB.mono (s15.trans s16))
    replace hE := (hE.mono (s15.trans s16))
    replace hL := (hL.mono (s15.trans s16))
    replace hR := (hR.mono (s15.trans s16))
    replace hO := (hO.mono (s15.trans s16))
    replace S := S.trans (s15.trans s16)
    refine ⟨_, rfl, len_A hB U.flen ?_⟩
    refine ⟨_, rfl, len_A hE U.flen ?_⟩
    refine Or.inl ⟨_, _, rfl, rfl, ?_⟩
    refine ⟨_, rfl, len_A ha U.flen ?_⟩
    refine ⟨_, rfl, len_A hb U.flen ?_⟩
    refine Or.inl ⟨_, _, rfl, rfl, ?_⟩
    refine Or.inl ⟨rfl, _, rfl, ?_⟩
    have c6 := cnt_add (W := W) (fun k => p k && q k) (fun k => p k || q k) p q fun k => by cases p k <;> cases q k <;> rfl
    unfold cnt at c6
    rw [neI (by omega)]
    refine iteF ?_
    refine ⟨_, rfl, _, rfl, and_go U hL hR fun g61 H61 s61 h61 => ?_⟩
    refine len_A h61 U.flen ?_
    refine Or.inl ⟨rfl, _, rfl, ?_⟩
    have c7 : cnt W (fun k => p k && !q k && (q k && !p k)) = 0 := cnt_zero fun k => by cases p k <;> cases q k <;> rfl
    unfold cnt at c7
    rw [neI (by omega)]
    refine iteF ?_
    replace ha := ha.mono s61
    replace hb := hb.mono s61
    replace hB := hB.mono s61
    replace hE := hE.mono s61
    replace hL := hL.mono s61
    replace hR := hR.mono s61
    replace S := S.trans s61
    obtain ⟨dx, t, hg⟩ := ins_row ha
    refine ⟨_, rfl, a, dx, _, rfl, hg, within_none, _, rfl, a, b, _, _, rfl, ha, hb, U.flen, U.flen, fun H71 s71 => ?_⟩
    refine ⟨_, rfl, len_A (hL.mono s71) U.flen (Or.inl ⟨rfl, Or.inl ⟨rfl, _, rfl, ?_⟩⟩)⟩
    rw [neB within_len]
    refine iteF ?_
    replace ha := ha.mono s71
    replace hb := hb.mono s71
    replace hB := hB.mono s71
    replace hE := hE.mono s71
    replace hL := hL.mono s71
    replace hR := hR.mono s71
    replace S := S.trans s71
    obtain ⟨dx, t, hg⟩ := ins_row ha
    refine ⟨_, rfl, a, dx, _, rfl, hg, within_none, _, rfl, a, b, _, _, rfl, ha, hb, U.flen, U.flen, fun H72 s72 => ?_⟩
    refine ⟨_, rfl, _, rfl, eq_go (hB.mono s72) (ha.mono s72) (neg := false) ?_⟩
    refine Or.inl ⟨rfl, _, rfl, ?_⟩
    rw [if_neg (show ¬ false = true from nofun), neB within_both]
    refine iteF ?_
    replace ha := ha.mono s72
    replace hb := hb.mono s72
    replace hB := hB.mono s72
    replace hE := hE.mono s72
    replace hL := hL.mono s72
    replace hR := hR.mono s72
    replace S := S.trans s72
    refine ⟨fun σ' H' => Same H72 H' ∧ σ' = [some (.ref a), some (.ref b), some (.ref g1), some (.ref g2), some (.ref g4), some (.ref g5), some (.ref g9), none, none, none], ?_, ?_⟩
    · skip
      obtain ⟨dx, t, hg⟩ := ins_row ha
      refine ⟨_, rfl, a, dx, _, rfl, hg, overlaps_none, _, rfl, a, b, _, _, rfl, ha, hb, U.flen, U.flen, fun H81 s81 => ?_⟩
      have o1 := over_iff (W := W) (p := p) (q := q)
      unfold cnt at o1
      have gt0 : ∀ {n : Nat}, decide ((0 : Int) < (n : Int)) = decide (0 < n) := fun {n} => decide_eq_decide.mpr (by omega)
      refine ⟨_, rfl, len_A (hB.mono s81) U.flen (Or.inl ⟨_, _, rfl, rfl, _, rfl, ?_⟩)⟩
      rw [gt0]
      cases e1 : decide (0 < (W.filter fun k => p k && q k).length) with
      | false =>
        rw [e1] at o1
        refine iteF (Or.inl ⟨rfl, _, rfl, ?_⟩)
        rw [neB (show pOver (W.filter p) (W.filter q) = false from o1)]
        exact iteF ⟨s81, rfl⟩
      | true =>
        rw [e1] at o1
        refine iteT ⟨_, rfl, len_A (hL.mono s81) U.flen (Or.inl ⟨_, _, rfl, rfl, _, rfl, ?_⟩)⟩
        rw [gt0]
        cases e2 : decide (0 < (W.filter fun k => p k && !q k).length) with
        | false =>
          rw [e2] at o1
          refine iteF (Or.inl ⟨rfl, _, rfl, ?_⟩)
          rw [neB (show pOver (W.filter p) (W.filter q) = false from o1)]
          exact iteF ⟨s81, rfl⟩
        | true =>
          rw [e2] at o1
          refine iteT ⟨_, rfl, len_A (hR.mono s81) U.flen (Or.inl ⟨_, _, rfl, rfl, Or.inl ⟨rfl, _, rfl, ?_⟩⟩)⟩
          rw [neB (show pOver (W.filter p) (W.filter q) = decide ((0 : Int) < ((W.filter fun k => q k && !p k).length : Int)) from o1.trans gt0.symm)]
          exact iteF ⟨s81, rfl⟩
    rintro σ' H8 ⟨s8x, rfl⟩
    replace ha := ha.mono s8x
    replace hb := hb.mono s8x
    replace hB := hB.mono s8x
    replace hE := hE.mono s8x
    replace hL := hL.mono s8x
    replace hR := hR.mono s8x
    replace S := S.trans s8x
    refine ⟨fun σ' H' => Same H8 H' ∧ σ' = [some (.ref a), some (.ref b), some (.ref g1), some (.ref g2), some (.ref g4), some (.ref g5), some (.ref g9), none, none, none], ?_, ?_⟩
    · skip
      obtain ⟨dx, t, hg⟩ := ins_row ha
      refine ⟨_, rfl, a, dx, _, rfl, hg, overlaps_none, _, rfl, a, b, _, _, rfl, ha, hb, U.flen, U.flen, fun H91 s91 => ?_⟩
      obtain ⟨dx, t, hg⟩ := ins_row (hb.mono s91)
      refine ⟨_, rfl, b, dx, _, rfl, hg, overlaps_none, _, rfl, b, a, _, _, rfl, (hb.mono s91), (ha.mono s91), U.flen, U.flen, fun H92 s92 => Or.inl ⟨rfl, _, rfl, ?_⟩⟩
      rw [neB over_comm]
      refine iteF ?_
      obtain ⟨dx, t, hg⟩ := ins_row (ha.mono (s91.trans s92))
      refine ⟨_, rfl, a, dx, _, rfl, hg, within_none, _, rfl, a, b, _, _, rfl, (ha.mono (s91.trans s92)), (hb.mono (s91.trans s92)), U.flen, U.flen, fun H93 s93 => ⟨_, rfl, ?_⟩⟩
      have w2 := within_two (W := W) (p := p) (q := q)
      have s3 := (s91.trans s92).trans s93
      cases e1 : pWithin (W.filter p) (W.filter q) with
      | false =>
        rw [e1] at w2
        refine iteF ?_
        refine ⟨_, rfl, _, rfl, eq_go (ha.mono s3) (hb.mono s3) (neg := false) (Or.inl ⟨rfl, _, rfl, ?_⟩)⟩
        rw [if_neg (show ¬ false = true from nofun), neB (by rw [← w2]; rfl)]
        exact iteF ⟨s3, rfl⟩
      | true =>
        rw [e1] at w2
        refine iteT ?_
        obtain ⟨dx, t, hg⟩ := ins_row (hb.mono s3)
        refine ⟨_, rfl, b, dx, _, rfl, hg, within_none, _, rfl, b, a, _, _, rfl, hb.mono s3, ha.mono s3, U.flen, U.flen, fun H94 s94 => ?_⟩
        have s4 := s3.trans s94
        refine ⟨_, rfl, _, rfl, eq_go (ha.mono s4) (hb.mono s4) (neg := false) (Or.inl ⟨rfl, _, rfl, ?_⟩)⟩
        rw [if_neg (show ¬ false = true from nofun), neB (by rw [← w2]; rfl)]
        exact iteF ⟨s4, rfl⟩
    rintro σ' H9x ⟨s9x, rfl⟩
    replace ha := ha.mono s9x
    replace hb := hb.mono s9x
    replace hB := hB.mono s9x
    replace hE := hE.mono s9x
    replace hL := hL.mono s9x
    replace hR := hR.mono s9x
    replace S := S.trans s9x
    obtain ⟨dx, t, hg⟩ := ins_row ha
    refine ⟨_, rfl, a, dx, _, rfl, hg, ahead_none, _, rfl, a, b, _, _, rfl, ha, hb, U.flen, U.flen, fun HA1 sA1 => ?_⟩
    refine ⟨_, rfl, _, rfl, eq_go (ha.mono sA1) (hb.mono sA1) (neg := false) ?_⟩
    rw [if_neg (show ¬ false = true from nofun)]
    obtain ⟨dx, t, hg⟩ := ins_row (hb.mono sA1)
    refine ⟨_, rfl, b, dx, _, rfl, hg, ahead_none, _, rfl, b, a, _, _, rfl, (hb.mono sA1), (ha.mono sA1), U.flen, U.flen, fun HA2 sA2 => ?_⟩
    refine ⟨by show 3 ≤ sizeLine; decide, fun l hl => ?_⟩
    have ord := ahead_one (W := W) (p := p) (q := q)
    generalize aheadR (W.filter p) (W.filter q) = A1 at ord ⊢
    generalize decide (W.filter p = W.filter q) = A2 at ord ⊢
    generalize aheadR (W.filter q) (W.filter p) = A3 at ord ⊢
    have sA3 : Same HA2 (upd HA2 l (.lst [V.bl A1, V.bl A2, V.bl A3])) := Same.upd hl
    have hl3 : (upd HA2 l (.lst [V.bl A1, V.bl A2, V.bl A3])) l = some (.lst ([A1, A2, A3].map V.bl)) := upd_same
    generalize upd HA2 l (.lst [V.bl A1, V.bl A2, V.bl A3]) = HA3 at sA3 hl3 ⊢
    replace ha := ha.mono ((sA1.trans sA2).trans sA3)
    replace hb := hb.mono ((sA1.trans sA2).trans sA3)
    replace hB := hB.mono ((sA1.trans sA2).trans sA3)
    replace hE := hE.mono ((sA1.trans sA2).trans sA3)
    replace hL := hL.mono ((sA1.trans sA2).trans sA3)
    replace hR := hR.mono ((sA1.trans sA2).trans sA3)
    replace S := S.trans ((sA1.trans sA2).trans sA3)
    refine ⟨_, rfl, l, rfl, ⟨_, SqL.of hl3⟩, fun D hD => ?_⟩
    refine lc_it walk_list (fun j H' => Same HA3 H' ∧ H' D = some (.lst ((([A1, A2, A3].map b2i).take j).map V.int))) ⟨Same.upd hD, upd_same⟩ (fun _ _ _ h => SqL.of (h.1 _ _ hl3)) ?_ ?_
    · rintro i x H1 H' hi ⟨s1, h1⟩ ⟨rfl, hx⟩
      obtain ⟨bb, hb1, rfl⟩ := get_map_bl hx
      refine ⟨rfl, tYes_go ?_⟩
      refine ⟨_, rfl, Or.inr ⟨bb, rfl, ?_⟩⟩
      refine ⟨_, h1, ?_, sput s1 hD, ?_⟩
      · have sz : (sizeLine : Nat) = 16777216 := sizeLine_eq
        rw [List.length_map, List.length_take]
        show min i 3 < _
        omega
      · rw [upd_same, take_succ' (x := b2i bb) (by rw [List.getElem?_map, hb1]; rfl), List.map_append]
        rfl
    rintro H11 ⟨s11x, h11x⟩
    rw [show ([A1, A2, A3].map V.bl).length = ([A1, A2, A3].map b2i).length from rfl, take_all] at h11x
    refine ⟨D, _, rfl, SqL.of h11x, by show 3 < 64; decide, fun ns p1 pm so hp1 => ?_⟩
    obtain rfl := one_only ord pm so
    have s11y : Same HA3 (upd H11 p1 (.lst (([0, 0, 1] : List Int).map V.int))) := s11x.trans (Same.upd hp1)
    refine ⟨_, p1, .list (([0, 0, 1] : List Int).map PyData.int), rfl, rfl, .lst upd_same (Dqs.ints _), by decide +kernel, by decide +kernel, by decide +kernel, ?_⟩
    refine Or.inl ⟨rfl, _, rfl, ?_⟩
    rw [neS (show (PyData.list (([0, 0, 1] : List Int).map PyData.int)).shown = Str.ofString "[0, 0, 1]" from by decide +kernel)]
    refine iteF ?_
    generalize upd H11 p1 (.lst (([0, 0, 1] : List Int).map V.int)) = H11y at s11y ⊢
    replace ha := ha.mono s11y
    replace hb := hb.mono s11y
    replace hB := hB.mono s11y
    replace hE := hE.mono s11y
    replace hL := hL.mono s11y
    replace hR := hR.mono s11y
    replace S := S.trans s11y
    refine ⟨fun σ' H' => Same H11y H' ∧ σ' = [some (.ref a), some (.ref b), some (.ref g1), some (.ref g2), some (.ref g4), some (.ref g5), some (.ref g9), some (.ref l), none, none], ?_, ?_⟩
    · refine ⟨_, rfl, len_A ha U.flen ?_⟩
      refine ⟨_, rfl, len_A hb U.flen (Or.inl ⟨_, _, rfl, rfl, _, rfl, ?_⟩)⟩
      refine ite2 (fun h => ?_) (fun h => ⟨fun _ _ e => e, rfl⟩)
      have hlt : (W.filter p).length < (W.filter q).length := by have := of_decide_eq_true h; omega
      obtain ⟨dx, t, hg⟩ := ins_row ha
      refine ⟨_, rfl, a, dx, _, rfl, hg, ahead_none, _, rfl, a, b, _, _, rfl, ha, hb, U.flen, U.flen, fun H12 s12 => ⟨_, rfl, ?_⟩⟩
      rw [ahead_len hlt]
      exact iteF ⟨s12, rfl⟩
    rintro σ' H12x ⟨s12x, rfl⟩
    replace ha := ha.mono s12x
    replace hb := hb.mono s12x
    replace hB := hB.mono s12x
    replace hE := hE.mono s12x
    replace hL := hL.mono s12x
    replace hR := hR.mono s12x
    replace S := S.trans s12x
    have sz : (sizeLine : Nat) = 16777216 := sizeLine_eq
    have pl : (W.filter p).length ≤ 24 := U.flen
    obtain ⟨dx, t, hga, hta, _⟩ := id ha
    refine ⟨_, rfl, a, C_Group, dx, _, _, rfl, hga, S_Group.cl, nr, row_get, t, rfl, ⟨_, SqT.of hta⟩, fun D hD => ?_⟩
    refine lc_it walk_tup (fun j H' => Same H12x H' ∧ H' D = some (.lst (((W.filter p).take j).map fun k => V.bl (decide (k ∈ W.filter fun k => p k && q k))))) ⟨Same.upd hD, upd_same⟩ (fun _ _ _ h => SqT.of (h.1 _ _ hta)) ?_ ?_
    · rintro i x H1 H' hi ⟨s1, h1⟩ ⟨rfl, hx⟩
      obtain ⟨k, hk, rfl⟩ := get_map_str hx
      refine ⟨rfl, tYes_go ?_⟩
      refine ⟨_, rfl, _, rfl, in_go (hB.mono s1) ?_⟩
      refine ⟨_, h1, ?_, sput s1 hD, ?_⟩
      · rw [List.length_map, List.length_take]
        omega
      · rw [upd_same, take_succ' hk, List.map_append]
        rfl
    rintro H13 ⟨s13, h13⟩
    rw [List.length_map, take_all] at h13
    have e13 : ((W.filter p).map fun k => V.bl (decide (k ∈ W.filter fun k => p k && q k))) = (((W.filter p).map fun k => decide (k ∈ W.filter q)).map V.bl) := by
      rw [List.map_map]
      refine List.map_congr_left fun k hk => ?_
      have hk' := List.mem_filter.mp hk
      have : (k ∈ W.filter fun k => p k && q k) ↔ k ∈ W.filter q := by
        simp only [List.mem_filter, hk'.1, hk'.2, Bool.true_and]
      show V.bl _ = V.bl _
      rw [decide_eq_decide.mpr this]
    rw [e13] at h13
    have big := sm_list (ds := ((W.filter p).map fun k => decide (k ∈ W.filter q)).map PyData.bool) sm_bools (by rw [List.length_map, List.length_map]; omega)
    refine ⟨_, D, _, rfl, rfl, .lst h13 (dqs_bools _), big.1, big.2.1, big.2.2, ?_⟩
    replace ha := ha.mono s13
    replace hb := hb.mono s13
    replace hB := hB.mono s13
    replace hE := hE.mono s13
    replace hL := hL.mono s13
    replace hR := hR.mono s13
    replace S := S.trans s13
    obtain ⟨dx, t, hga, hta, _⟩ := id ha
    refine ⟨_, rfl, a, dx, _, t, _, rfl, hga, row_get, SqT.of hta, fun D2 hD2 => ?_⟩
    refine lc_it walk_tup (fun j H' => Same H13 H' ∧ H' D2 = some (.lst (((W.filter p).take j).map fun k => V.bl (decide (k ∈ W.filter q))))) ⟨Same.upd hD2, upd_same⟩ (fun _ _ _ h => SqT.of (h.1 _ _ hta)) ?_ ?_
    · rintro i x H1 H' hi ⟨s1, h1⟩ ⟨rfl, hx⟩
      obtain ⟨k, hk, rfl⟩ := get_map_str hx
      refine ⟨rfl, tYes_go ?_⟩
      refine ⟨_, rfl, _, rfl, in_go (hb.mono s1) ?_⟩
      refine ⟨_, h1, ?_, sput s1 hD2, ?_⟩
      · rw [List.length_map, List.length_take]
        omega
      · rw [upd_same, take_succ' hk, List.map_append]
        rfl
    rintro H14 ⟨s14, h14⟩
    rw [List.length_map, take_all] at h14
    refine ⟨_, D2, .list (((W.filter p).map fun k => decide (k ∈ W.filter q)).map PyData.bool), rfl, rfl, .lst h14 (by rw [show ((W.filter p).map fun k => V.bl (decide (k ∈ W.filter q))) = (((W.filter p).map fun k => decide (k ∈ W.filter q)).map V.bl) from by rw [List.map_map]; rfl]; exact dqs_bools _), big.1, big.2.1, big.2.2, ?_⟩
    refine Or.inl ⟨rfl, _, rfl, ?_⟩
    rw [neS rfl]
    refine iteF ?_
    replace ha := ha.mono s14
    replace hb := hb.mono s14
    replace hB := hB.mono s14
    replace hE := hE.mono s14
    replace hL := hL.mono s14
    replace hR := hR.mono s14
    replace S := S.trans s14
    refine ⟨_, rfl, _, rfl, a, a, _, _, rfl, ha, ha, U.fisw, U.fisw, U.flen, U.flen, fun l1 H15 s15x h15x => ?_⟩
    replace ha := ha.mono s15x
    replace hb := hb.mono s15x
    replace hB := hB.mono s15x
    replace hE := hE.mono s15x
    replace hL := hL.mono s15x
    replace hR := hR.mono s15x
    replace S := S.trans s15x
    obtain ⟨dx, t, hga, hta, _⟩ := id ha
    refine ⟨_, rfl, a, C_Group, dx, _, _, rfl, hga, S_Group.cl, nr, row_get, _, rfl, a, C_Group, dx, _, _, rfl, hga, S_Group.cl, nr, row_get, t, t, _, _, rfl, hta, hta, U.fisw, U.fisw, U.flen, U.flen, fun l2 H16 s16x h16x => ?_⟩
    refine Or.inr (neL_go (s16x _ _ h15x) h16x (pairs_ok U.fisw U.fisw) ⟨_, rfl, iteF ?_⟩)
    replace ha := ha.mono s16x
    replace hb := hb.mono s16x
    replace hB := hB.mono s16x
    replace hE := hE.mono s16x
    replace hL := hL.mono s16x
    replace hR := hR.mono s16x
    replace S := S.trans s16x
    refine ⟨_, rfl, _, rfl, a, b, _, _, rfl, ha, hb, U.fisw, U.fisw, U.flen, U.flen, fun l3 H17 s17x h17x => ?_⟩
    replace ha := ha.mono s17x
    replace hb := hb.mono s17x
    replace hB := hB.mono s17x
    replace hE := hE.mono s17x
    replace hL := hL.mono s17x
    replace hR := hR.mono s17x
    replace S := S.trans s17x
    obtain ⟨dx, t, hga, hta, _⟩ := id ha
    obtain ⟨dx2, t2, hgb, htb, _⟩ := id hb
    refine ⟨_, rfl, a, C_Group, dx, _, _, rfl, hga, S_Group.cl, nr, row_get, _, rfl, b, C_Group, dx2, _, _, rfl, hgb, S_Group.cl, nr, row_get, t, t2, _, _, rfl, hta, htb, U.fisw, U.fisw, U.flen, U.flen, fun l4 H18 s18x h18x => ?_⟩
    refine Or.inr ⟨_, _, .lst (s18x _ _ h17x) (Dqs.strs _), .lst h18x (Dqs.strs _), depth_strsL _, fun bb hbb => ?_⟩
    obtain rfl : bb = true := hbb.mpr rfl
    exact k _ (S.trans s18x)
end
end
end L06

namespace L06
open PySem PySem.Spec PyProof.Rows L2 Kq StX ClX
section
variable {P : Program} {w : World} {K : PySem.W.Frag} {mg : Str → Option Value} {base : Heap}
/-! ### a rising row of the words -/
theorem ris_ex : ∀ ws : List Str, ∃ W, Ris1 W ∧ ∀ k, k ∈ W ↔ k ∈ ws
  | [] => ⟨[], .nil, fun k => Iff.rfl⟩
  | x :: ws => by
    obtain ⟨W, hr, hm⟩ := ris_ex ws
    by_cases hx : x ∈ W
    · exact ⟨W, hr, fun k => by rw [hm, List.mem_cons]; exact ⟨Or.inr, fun h => h.elim (fun e => by rw [e]; exact (hm x).mp hx) id⟩⟩
    · refine ⟨W.filter (fun y => decide (LtS y x)) ++ x :: W.filter (fun y => decide (LtS x y)), ?_, fun k => ?_⟩
      · refine List.pairwise_append.mpr ⟨Ris1.filter hr _, List.pairwise_cons.mpr ⟨fun y hy => of_decide_eq_true (List.mem_filter.mp hy).2, Ris1.filter hr _⟩, fun a ha b hb => ?_⟩
        have h1 : LtS a x := of_decide_eq_true (List.mem_filter.mp ha).2
        rcases List.mem_cons.mp hb with rfl | hb
        · exact h1
        · exact h1.trans (of_decide_eq_true (List.mem_filter.mp hb).2)
      · simp only [List.mem_append, List.mem_cons, List.mem_filter, decide_eq_true_eq]
        constructor
        · rintro (⟨h, _⟩ | rfl | ⟨h, _⟩)
          · exact Or.inr ((hm k).mp h)
          · exact Or.inl rfl
          · exact Or.inr ((hm k).mp h)
        · rintro (rfl | h)
          · exact Or.inr (Or.inl rfl)
          · have hk := (hm k).mpr h
            by_cases h1 : LtS k x
            · exact Or.inl ⟨hk, h1⟩
            · by_cases h2 : LtS x k
              · exact Or.inr (Or.inr ⟨hk, h2⟩)
              · exact absurd (LtS.tri h1 h2 ▸ hk) hx
theorem uni_ex {ws : List Str} (h : ∀ s ∈ ws, IsW s) (hl : ws.length ≤ 24) : ∃ W, Uni W ∧ ∀ k, k ∈ W ↔ k ∈ ws := by
  obtain ⟨W, hr, hm⟩ := ris_ex ws
  exact ⟨W, ⟨hr, fun s hs => h s ((hm s).mp hs), Nat.le_trans (nodup_le (Ris1.nodup hr) fun k hk => (hm k).mp hk) hl⟩, hm⟩
/-- a row of words at x -/
def Row1 (W : List Str) (h : Hp) (x : V) : Prop := ∃ (a : Addr) (us : List Str), x = .ref a ∧ h a = some (.lst (us.map V.str)) ∧ (∀ k ∈ us, k ∈ W) ∧ us.length ≤ 12
theorem Row1.same {W : List Str} {h h' : Hp} {x : V} (r : Row1 W h x) (s : Same h h') : Row1 W h' x := by
  obtain ⟨a, us, e, h1, h2⟩ := r
  exact ⟨a, us, e, s _ _ h1, h2⟩
theorem few_uni {W us : List Str} (U : Uni W) (h : ∀ k ∈ us, k ∈ W) (hl : us.length ≤ 4000) : Few us := ⟨fun s hs => U.isw s (h s hs), hl, fun ys nd m => Nat.le_trans (nodup_le nd fun k hk => h k (m k hk)) U.few⟩
theorem gone_row {W us : List Str} {C : Addr} {H : Hp} {Q : VK} (U : Uni W) (h : ∀ k ∈ us, k ∈ W) (q : Gone C W H (fun k => decide (k ∈ us)) Q) : NewG C H us Q :=
  gone_new U (fun k => by rw [List.mem_filter, decide_eq_true_eq]; exact ⟨fun hk => ⟨h k hk, hk⟩, fun hk => hk.2⟩) q
theorem filter_self {W : List Str} {p : Str → Bool} : ∀ k ∈ W.filter p, k ∈ W := fun k h => (List.mem_filter.mp h).1
theorem gone_self {W : List Str} {p : Str → Bool} {C : Addr} {H : Hp} {Q : VK} (U : Uni W) (q : Gone C W H p Q) : NewG C H (W.filter p) Q := gone_new U (fun k => Iff.rfl) q
end
end L06

namespace L06
open PySem PySem.Spec PyProof.Rows L2 Kq StX ClX
section
variable {P : Program} {w : World} {K : PySem.W.Frag} {mg : Str → Option Value} {base : Heap}
section
variable {C_Group : Addr} {f : Addr} {fd : FuncData}
theorem strs_of {ws : List Str} : ∀ {ys : List V}, (∀ y ∈ ys, ∃ s ∈ ws, y = .str s) → ∃ us : List Str, ys = us.map V.str ∧ ∀ k ∈ us, k ∈ ws
  | [], _ => ⟨[], rfl, fun _ h => nomatch h⟩
  | y :: ys, h => by
    obtain ⟨us, e, m⟩ := strs_of (ys := ys) fun z hz => h z (List.mem_cons_of_mem _ hz)
    obtain ⟨s, hs, e2⟩ := h y (List.mem_cons_self ..)
    refine ⟨s :: us, by rw [e, e2]; rfl, fun k hk => ?_⟩
    rcases List.mem_cons.mp hk with rfl | hk
    · exact hs
    · exact m k hk
theorem grp_put {C a D : Addr} {H : Hp} {r : List Str} {xs : List V} {o : HO} (h : GrpAt C H a r) (hD : H D = some (.lst xs)) : GrpAt C (upd H D o) a r := by
  obtain ⟨dx, t, h1, h2, h3⟩ := h
  refine ⟨dx, t, ?_, ?_, h3⟩
  · rw [upd_ne]
    · exact h1
    · rintro rfl
      rw [hD] at h1
      cases h1
  · rw [upd_ne]
    · exact h2
    · rintro rfl
      rw [hD] at h2
      cases h2
def spLaw (K : PySem.W.Frag) : Sp := fun vs H Q _ => ∃ (a : Addr) (ns : List Int), vs = [.ref a] ∧ SqL K H a (ns.map V.int) ∧ ns.length ≤ 63 ∧ ∀ H', Q (.bl true) H'
theorem ok_law (F : Fun K "law" "law" st_law f fd) (T : Txt K mg) (S_Group : ClsI K mg "Group" C_Group) (O : GOps P w K mg base C_Group) (P_pen : Prom P w K mg base 1 "_law_pen" ps_pen (spPen K)) (P_pick : Prom P w K mg base 2 "_law_pick" ps_pick spPick)
    (P_words : Prom P w K mg base 4 "_law_words" ps_words spWords) (P_part : Prom P w K mg base 3 "_law_part" ps_part spPart) (P_turned : Prom P w K mg base 2 "_law_turned" ps_turned spTurned)
    (P_two : PromG P w K mg base 5 "_law_two" ps_two (spTwo C_Group)) (P_three : Prom P w K mg base 5 "_law_three" ps_three (spThree C_Group))
    (P_Group_of : CmProm P w K mg base 4 C_Group "of" (spOf K C_Group)) (P_Group_read : CmProm P w K mg base 4 C_Group "read" (spRead C_Group)) (P_str : StrProm P w K mg base 1 C_Group (spGStr C_Group)) : FnG P w K mg base CX0 6 f fd ps_law (spLaw K) := by
  refine Kq.Fun.okN F sc_law (fun vs H Q E h => ?_) (fun cdv A outer s H vs Q E hgd hr h => ?_)
  · obtain ⟨a, ns, rfl, _⟩ := h
    rfl
  · obtain ⟨a0, ns, rfl, hS, hl, k⟩ := h
    have hu := hr.units
    have I_Group := O.I_
    have nr := O.nr
    have sz : (sizeLine : Nat) = 16777216 := sizeLine_eq
    refine ⟨_, (pss_cons (ps_set (i := 1) sc_law.nd rfl (by first | exact Or.inl rfl | exact Or.inr rfl) (pe_p P_pen hr (by decide) (pa_cons (pv 0) pa_nil))) (pss_cons (ps_for PassesOwn.never rfl (pi_range1 rfl T.n_range (pa_cons pe_int pa_nil)) (pg_name (i := 2) sc_law.nd rfl (by first | exact Or.inl rfl | exact Or.inr rfl)) (pss_cons (ps_set (i := 3) sc_law.nd rfl (by first | exact Or.inl rfl | exact Or.inr rfl) (pe_p P_words hr (by decide) (pa_cons (pv 1) (pa_cons (pe_p P_pick hr (by decide) (pa_cons (pv 1) (pa_cons (pe_lst (pa_cons pe_int (pa_cons pe_int (pa_cons pe_int (pa_cons pe_int pa_nil))))) pa_nil))) pa_nil)))) (pss_cons (ps_set (i := 4) sc_law.nd rfl (by first | exact Or.inl rfl | exact Or.inr rfl) (pe_lst (pa_cons (pe_p P_part hr (by decide) (pa_cons (pv 1) (pa_cons (pv 3) (pa_cons pe_int pa_nil)))) (pa_cons (pe_p P_part hr (by decide) (pa_cons (pv 1) (pa_cons (pe_revP (K := K) (pv 3)) (pa_cons pe_int pa_nil)))) (pa_cons (pe_p P_part hr (by decide) (pa_cons (pv 1) (pa_cons (pe_p P_turned hr (by decide) (pa_cons (pv 1) (pa_cons (pv 3) pa_nil))) (pa_cons pe_int pa_nil)))) pa_nil))))) (pss_cons (ps_expr (pe_bm PySem.F.plainAttrs_list PySem.F.slot_list_append PySem.F.type_list_append mt_append (pv 4) (pa_cons (pe_p P_pick hr (by decide) (pa_cons (pv 1) (pa_cons (pe_lst (pa_cons (pe_op (opAddP (K := K)) (pe_ix (ixP (K := K)) (pv 4) pe_int (fun _ _ => rfl)) (pe_ix (ixP (K := K)) (pv 4) pe_int (fun _ _ => rfl))) (pa_cons (pe_slice (slP (K := K)) (pe_ix (ixP (K := K)) (pv 4) pe_int (fun _ _ => rfl)) (po_some pe_int) po_none) (pa_cons (pe_ix (ixP (K := K)) (pv 4) pe_int (fun _ _ => rfl)) (pa_cons (pe_lst pa_nil) pa_nil))))) pa_nil))) pa_nil))) (pss_cons (ps_setLc (i := 5) (own := [("_law_row", 6)]) rfl sc_law.nd rfl rfl (sw_true rfl rfl rfl (by decide +kernel)) (pi_listP (K := K) (pe_slice (slP (K := K)) (pe_p P_turned hr (by decide) (pa_cons (pv 1) (pa_cons (pv 4) pa_nil))) po_none (po_some pe_int))) (blkOk_by (N := N_law) (sc := defScope st_law) (by decide +kernel)) (fun _ _ _ _ _ => (pg_name (i := 6) sc_law.nd rfl (by first | exact Or.inl rfl | exact Or.inr rfl))) (fun _ _ _ _ _ => pts_nil) (fun _ _ _ _ _ => (pe_cm P_Group_of hr (by decide) (pe_glob (v := .ref C_Group) rfl S_Group.hm rfl) (pa_cons (pv 6) pa_nil)))) (pss_one (ps_for PassesOwn.never rfl (pi_listP (K := K) (pv 5)) (pg_name (i := 7) sc_law.nd rfl (by first | exact Or.inl rfl | exact Or.inr rfl)) (pss_cons (ps_if (PW.pt (pw_or (pt_not (pt_cmpR (opOE O.E_ hr (by decide) (K := K)) (pe_cm P_Group_read hr (by decide) (pe_glob (v := .ref C_Group) rfl S_Group.hm rfl) (pa_cons (pe_callTy (callSO P_str hr (by decide)) rfl T.n_str (by decide +kernel) (pa_cons (pv 7) pa_nil)) pa_nil)) (pv 7) (by first | exact nomark _ | rfl))) (pw_or (pt_not (pt_cmpR (opOE O.E_ hr (by decide) (K := K)) (pe_cm P_Group_of hr (by decide) (pe_glob (v := .ref C_Group) rfl S_Group.hm rfl) (pa_cons (pe_callTy (call_listO (K := K) O.I_ O.L_ hr (by decide) rfl) rfl T.n_list (by decide +kernel) (pa_cons (pv 7) pa_nil)) pa_nil)) (pv 7) (by first | exact nomark _ | rfl))) (pw_or1 (pt_not (pt_cmpR (opOE O.E_ hr (by decide) (K := K)) (pe_cm P_Group_of hr (by decide) (pe_glob (v := .ref C_Group) rfl S_Group.hm rfl) (pa_cons (pe_fldP (K := K) (pv 7) rfl) pa_nil)) (pv 7) (by first | exact nomark _ | rfl))))))) (pss_one (ps_ret pe_bl)) pss_nil) (pss_one (ps_for PassesOwn.never rfl (pi_listP (K := K) (pv 5)) (pg_name (i := 8) sc_law.nd rfl (by first | exact Or.inl rfl | exact Or.inr rfl)) (pss_cons (ps_if (pt_not (pt_truth (pe_g P_two hgd hr (by decide) (pa_cons (pv 7) (pa_cons (pv 8) pa_nil))) (fun _ => rfl))) (pss_one (ps_ret pe_bl)) pss_nil) (pss_one (ps_for PassesOwn.never rfl (pi_listP (K := K) (pv 5)) (pg_name (i := 9) sc_law.nd rfl (by first | exact Or.inl rfl | exact Or.inr rfl)) (pss_one (ps_if (pt_not (pt_truth (pe_p P_three hr (by decide) (pa_cons (pv 7) (pa_cons (pv 8) (pa_cons (pv 9) pa_nil)))) (fun _ => rfl))) (pss_one (ps_ret pe_bl)) pss_nil))))))))))))))) (pss_one (ps_ret pe_bl)))), ?_⟩
    refine ⟨_, rfl, a0, ns, rfl, hS, hl, fun p c H0 np nc hP0 s0 => ?_⟩
    refine ⟨3, rfl, by decide, by decide, ?_⟩
    refine for_range (fun i σ' H' => PenAt H' p c (1000 * i) ∧ ∃ x2 x3 x4 x5 x6 x7 x8 x9, σ' = [some (.ref a0), some (.ref p), x2, x3, x4, x5, x6, x7, x8, x9]) ⟨hP0, _, _, _, _, _, _, _, _, rfl⟩ ?_ ?_
    · rintro i σ' H1 hi ⟨hP1, x2, x3, x4, x5, x6, x7, x8, x9, rfl⟩
      have hi8 : i < 3 := hi
      -- the words
      refine ⟨_, rfl, _, rfl, by show 4 ≤ sizeLine; decide, fun l hl' => ?_⟩
      refine ⟨p, c, 1000 * i, _, rfl, hP1.upd hl', by omega, ⟨_, rfl, Or.inl ⟨l, _, rfl, Or.inl (Im_upd (hP1.ne hl')), by simp, by show 4 ≤ 100000; decide⟩⟩, ?_⟩
      rintro v H2 hP2 s2 ⟨x, ex, hi2⟩
      cases ex
      have hv := hi2.lst (s2 _ _ (Im_upd (hP1.ne hl')))
      obtain ⟨j, rfl, hj1, hj2⟩ : ∃ j : Int, v = .int j ∧ 1 ≤ j ∧ j ≤ 6 := by
        simp only [List.mem_cons, List.not_mem_nil, or_false] at hv
        rcases hv with rfl | rfl | rfl | rfl
        · exact ⟨1, rfl, by omega, by omega⟩
        · exact ⟨3, rfl, by omega, by omega⟩
        · exact ⟨5, rfl, by omega, by omega⟩
        · exact ⟨6, rfl, by omega, by omega⟩
      refine ⟨p, c, 1000 * i + 1, _, rfl, hP2, by omega, ⟨_, rfl, by omega, by omega⟩, ?_⟩
      rintro v H3 hP3 s3 ⟨m, W0, ws, em, rfl, hW0, hwl, hwn, hww⟩
      cases em
      have hl6 : ws.length ≤ 6 := by omega
      obtain ⟨W, U, hWm⟩ := uni_ex hww (by omega)
      -- the rows
      refine ⟨_, rfl, _, rfl, p, c, 1000 * i + 521, _, rfl, hP3, by omega, ⟨W0, ws, 6, rfl, hW0, by omega⟩, ?_⟩
      rintro v H4 hP4 s4 ⟨a1, b1, ws1, us1, m1, e1, rfl, hw1, hb1, sb1, lb1⟩
      cases e1
      obtain rfl := lst_inj (s4 _ _ hW0) hw1
      have hW4 := s4 _ _ hW0
      have nW := (Im_get hW0).2
      have r1 : Row1 W (Im H4 p) (.ref b1) := ⟨b1, us1, rfl, hb1, fun k hk => (hWm k).mpr (sb1.subset hk), by have := sb1.length_le; omega⟩
      refine ⟨_, rfl, _, rfl, W0, _, rfl, SqL.of (Im_get hW4).1, fun R hR => ?_⟩
      refine ⟨p, c, 1000 * i + 521 + 110, _, rfl, hP4.upd hR, by omega, ⟨R, ws.reverse, 6, rfl, by rw [List.map_reverse]; exact Im_upd (hP4.ne hR), by rw [List.length_reverse]; omega⟩, ?_⟩
      rintro v H5 hP5 s5 ⟨a2, b2, ws2, us2, m2, e2, rfl, hw2, hb2, sb2, lb2⟩
      cases e2
      have s45 : Same (Im H4 p) (Im H5 p) := (Same.updI hR).trans s5
      obtain rfl : ws2 = ws.reverse := (lst_inj (s5 _ _ (by rw [← List.map_reverse]; exact Im_upd (hP4.ne hR))) hw2).symm
      have r2 : Row1 W (Im H5 p) (.ref b2) := ⟨b2, us2, rfl, hb2, fun k hk => (hWm k).mpr (List.mem_reverse.mp (sb2.subset hk)), by have := sb2.length_le; rw [List.length_reverse] at this; omega⟩
      have hW5 := s45 _ _ hW4
      refine ⟨_, rfl, _, rfl, _, rfl, p, c, 1000 * i + 521 + 110 + 110, _, rfl, hP5, by omega, ⟨W0, ws.map V.str, rfl, hW5, by rw [List.length_map]; omega⟩, ?_⟩
      rintro v H6 hP6 s6 ⟨a3, t3, xs3, ys3, e3, rfl, hx3, ht3, pm3⟩
      cases e3
      have hW6 := s6 _ _ hW5
      rw [hW6] at hx3
      cases hx3
      obtain ⟨ws3, rfl, hm3⟩ := strs_of (ys := ys3) (ws := ws) fun y hy => by
        obtain ⟨s, hs, rfl⟩ := List.mem_map.mp (pm3.mem_iff.mp hy)
        exact ⟨s, hs, rfl⟩
      have l3 : ws3.length = ws.length := by
        have := pm3.length_eq
        rw [List.length_map, List.length_map] at this
        exact this
      refine ⟨p, c, 1000 * i + 521 + 110 + 110 + 52, _, rfl, hP6, by omega, ⟨t3, ws3, 6, rfl, ht3, by omega⟩, ?_⟩
      rintro v H7 hP7 s7 ⟨a4, b3, ws4, us3, m3, e4, rfl, hw4, hb3, sb3, lb3⟩
      cases e4
      obtain rfl := lst_inj (s7 _ _ ht3) hw4
      have r3 : Row1 W (Im H7 p) (.ref b3) := ⟨b3, us3, rfl, hb3, fun k hk => (hWm k).mpr (hm3 k (sb3.subset hk)), by have := sb3.length_le; omega⟩
      have hb1' := (s45.trans (s6.trans s7)) _ _ hb1
      have hb2' := (s6.trans s7) _ _ hb2
      refine ⟨by show 3 ≤ sizeLine; decide, fun R4 hR4 => ?_⟩
      have nR := hP7.ne hR4
      have nRC := hP7.neC hR4
      have s8 : Same (Im H7 p) (Im (upd H7 R4 (.lst [.ref b1, .ref b2, .ref b3])) p) := Same.updI hR4
      have hP8 := hP7.upd (o := .lst [.ref b1, .ref b2, .ref b3]) hR4
      have hR8 : (upd H7 R4 (.lst [.ref b1, .ref b2, .ref b3])) R4 = some (.lst [.ref b1, .ref b2, .ref b3]) := upd_same
      generalize upd H7 R4 (.lst [.ref b1, .ref b2, .ref b3]) = H8 at s8 hP8 hR8 ⊢
      have c1 := (Im_get (s8 _ _ hb1')).1
      have c2 := (Im_get (s8 _ _ hb2')).1
      have aw0 : ∀ a b c : V, atI [a, b, c] 0 = some a := fun _ _ _ => rfl
      have aw1 : ∀ a b c : V, atI [a, b, c] 1 = some b := fun _ _ _ => rfl
      have lu1 : us1.length ≤ 6 := by have := sb1.length_le; omega
      have lu2 : us2.length ≤ 6 := by have := sb2.length_le; rw [List.length_reverse] at this; omega
      -- the fourth row
      refine ⟨_, rfl, Or.inl ⟨rfl, _, SqL.of hR8⟩, _, rfl, ?_⟩
      refine ⟨_, rfl, Or.inl ⟨R4, _, _, _, rfl, rfl, SqL.of hR8, aw0 .., ?_⟩⟩
      refine ⟨_, rfl, Or.inl ⟨R4, _, _, _, rfl, rfl, SqL.of hR8, aw1 .., ?_⟩⟩
      refine Or.inr (Or.inr (Or.inl ⟨b1, b2, _, _, rfl, rfl, c1, c2, by rw [List.length_map, List.length_map]; omega, fun q1 hq1 => ?_⟩))
      have t1 := Same.upd (o := .lst (us1.map V.str ++ us2.map V.str)) hq1
      have hq1' : (upd H8 q1 (.lst (us1.map V.str ++ us2.map V.str))) q1 = some (.lst (us1.map V.str ++ us2.map V.str)) := upd_same
      generalize upd H8 q1 (.lst (us1.map V.str ++ us2.map V.str)) = H9 at t1 hq1' ⊢
      refine ⟨_, rfl, Or.inl ⟨R4, _, _, _, rfl, rfl, SqL.of (t1 _ _ hR8), aw0 .., ?_⟩⟩
      refine ⟨1, rfl, Or.inl ⟨b1, _, rfl, SqL.of (t1 _ _ c1), fun q2 hq2 => ?_⟩⟩
      rw [show (some (1 : Int)) = some ((1 : Nat) : Int) from rfl, cut_lo]
      have t2 := Same.upd (o := .lst ((us1.map V.str).drop 1)) hq2
      have hq2' : (upd H9 q2 (.lst ((us1.map V.str).drop 1))) q2 = some (.lst ((us1.map V.str).drop 1)) := upd_same
      generalize upd H9 q2 (.lst ((us1.map V.str).drop 1)) = H10 at t2 hq2' ⊢
      refine ⟨_, rfl, Or.inl ⟨R4, _, _, _, rfl, rfl, SqL.of (t2 _ _ (t1 _ _ hR8)), aw1 .., ?_⟩⟩
      refine ⟨Nat.zero_le _, fun q3 hq3 => ?_⟩
      have t3' := Same.upd (o := .lst []) hq3
      have hq3' : (upd H10 q3 (.lst [])) q3 = some (.lst []) := upd_same
      generalize upd H10 q3 (.lst []) = H11 at t3' hq3' ⊢
      refine ⟨by show 4 ≤ sizeLine; decide, fun q4 hq4 => ?_⟩
      have t13 := (t1.trans t2).trans t3'
      have hP11 := hP8.same t13
      have n4 := hP11.ne hq4
      refine ⟨p, c, 1000 * i + 521 + 110 + 110 + 52 + 110, _, rfl, hP11.upd hq4, by omega, ⟨_, rfl, Or.inl ⟨q4, _, rfl, Or.inl (Im_upd n4), by simp, by show 4 ≤ 100000; decide⟩⟩, ?_⟩
      rintro v H12 hP12 s12 ⟨x, ex, hi12⟩
      cases ex
      have hv := hi12.lst (s12 _ _ (Im_upd n4))
      have s11 : Same (Im H11 p) (Im H12 p) := (Same.updI hq4).trans s12
      have hR11 := t13 _ _ hR8
      have hR12 := same_at s11 hR11 nR
      have hmap : us1.map V.str ++ us2.map V.str = (us1 ++ us2).map V.str := List.map_append.symm
      have hdrop : (us1.map V.str).drop 1 = (us1.drop 1).map V.str := List.map_drop.symm
      rw [hmap] at hq1'
      rw [hdrop] at hq2'
      have m1 : ∀ k ∈ us1, k ∈ W := fun k hk => (hWm k).mpr (sb1.subset hk)
      have m2 : ∀ k ∈ us2, k ∈ W := fun k hk => (hWm k).mpr (List.mem_reverse.mp (sb2.subset hk))
      have sH8 : Same (Im H8 p) (Im H12 p) := (sameIm t13).trans s11
      have nq1 : q1 ≠ p := hP8.ne hq1
      have nq2 : q2 ≠ p := (hP8.same t1).ne hq2
      have nq3 : q3 ≠ p := ((hP8.same t1).same t2).ne hq3
      have g1 := same_at s11 (t3' _ _ (t2 _ _ hq1')) nq1
      have g2 := same_at s11 (t3' _ _ hq2') nq2
      have g3 := same_at s11 hq3' nq3
      have eR1 : q1 ≠ R4 := (ne_of_none hR8 hq1).symm
      have eR2 : q2 ≠ R4 := (ne_of_none (t1 _ _ hR8) hq2).symm
      have eR3 : q3 ≠ R4 := (ne_of_none (t2 _ _ (t1 _ _ hR8)) hq3).symm
      obtain ⟨y, us4, rfl, hy4, ny4, nyR, my4, ly4⟩ : ∃ (y : Addr) (us4 : List Str), v = .ref y ∧ H12 y = some (.lst (us4.map V.str)) ∧ y ≠ p ∧ y ≠ R4 ∧ (∀ k ∈ us4, k ∈ W) ∧ us4.length ≤ 12 := by
        simp only [List.mem_cons, List.not_mem_nil, or_false] at hv
        rcases hv with rfl | rfl | rfl | rfl
        · exact ⟨q1, _, rfl, g1, nq1, eR1, fun k hk => (List.mem_append.mp hk).elim (m1 k) (m2 k), by rw [List.length_append]; omega⟩
        · exact ⟨q2, _, rfl, g2, nq2, eR2, fun k hk => m1 k (List.mem_of_mem_drop hk), by rw [List.length_drop]; omega⟩
        · exact ⟨b2, _, rfl, (Im_get (sH8 _ _ (Im_of c2 (Im_get hb2).2))).1, (Im_get hb2).2, ne_of_none (Im_get hb2').1 hR4, m2, by omega⟩
        · exact ⟨q3, [], rfl, g3, nq3, eR3, nofun, Nat.zero_le _⟩
      refine ⟨R4, _, _, rfl, rfl, hR12, by show 3 < sizeLine; omega, ?_⟩
      -- the four rows
      have s713 : Same (Im H7 p) (Im (upd H12 R4 (.lst [.ref b1, .ref b2, .ref b3, .ref y])) p) := samePut (s8.trans sH8) hR4
      have hP13 : PenAt (upd H12 R4 (.lst [.ref b1, .ref b2, .ref b3, .ref y])) p c (1000 * i + 521 + 110 + 110 + 52 + 110 + 1) := hP12.put nR nRC
      have hR13 : (upd H12 R4 (.lst [.ref b1, .ref b2, .ref b3, .ref y])) R4 = some (.lst [.ref b1, .ref b2, .ref b3, .ref y]) := upd_same
      have hy13 : (upd H12 R4 (.lst [.ref b1, .ref b2, .ref b3, .ref y])) y = some (.lst (us4.map V.str)) := by rw [upd_ne nyR]; exact hy4
      have rows : ∀ z ∈ ([.ref b1, .ref b2, .ref b3, .ref y] : List V), Row1 W (Im (upd H12 R4 (.lst [.ref b1, .ref b2, .ref b3, .ref y])) p) z := by
        intro z hz
        simp only [List.mem_cons, List.not_mem_nil, or_false] at hz
        rcases hz with rfl | rfl | rfl | rfl
        · exact (r1.same (s45.trans (s6.trans s7))).same s713
        · exact (r2.same (s6.trans s7)).same s713
        · exact r3.same s713
        · exact ⟨y, us4, rfl, Im_of hy13 ny4, my4, ly4⟩
      show (fun H6 => _) (upd H12 R4 (.lst [.ref b1, .ref b2, .ref b3, .ref y]))
      generalize upd H12 R4 (.lst [.ref b1, .ref b2, .ref b3, .ref y]) = H13 at hP13 hR13 rows ⊢
      -- the groups
      refine ⟨_, rfl, _, rfl, p, c, 1000 * i + 521 + 110 + 110 + 52 + 110 + 1, _, rfl, hP13, by omega, ⟨R4, _, rfl, Im_of hR13 nR, by show 4 ≤ 52; decide⟩, ?_⟩
      rintro v H14 hP14 s14 ⟨a5, t5, xs5, ys5, e5, rfl, hx5, ht5, pm5⟩
      cases e5
      have hx5' := s14 _ _ (Im_of hR13 nR)
      rw [hx5'] at hx5
      cases hx5
      refine ⟨3, rfl, Or.inl ⟨t5, _, rfl, SqL.of (Im_get ht5).1, fun B5 hB5 => ?_⟩⟩
      rw [show (some (3 : Int)) = some ((3 : Nat) : Int) from rfl, cut_hi]
      have rows14 : ∀ z ∈ ys5.take 3, Row1 W (upd H14 B5 (.lst (ys5.take 3))) z := fun z hz => ((rows z (pm5.mem_iff.mp (List.mem_of_mem_take hz))).same s14).same ((Im_sub).trans (Same.upd hB5))
      have hP15 := hP14.upd (o := .lst (ys5.take 3)) hB5
      have hB15 : (upd H14 B5 (.lst (ys5.take 3))) B5 = some (.lst (ys5.take 3)) := upd_same
      generalize upd H14 B5 (.lst (ys5.take 3)) = H15 at rows14 hP15 hB15 ⊢
      refine ⟨B5, rfl, ⟨_, SqL.of hB15⟩, fun D hD => ?_⟩
      refine lc_it walk_list (fun j H' => Same H15 H' ∧ ∃ gs : List V, gs.length = j ∧ H' D = some (.lst gs) ∧ ∀ g ∈ gs, ∃ a p', g = .ref a ∧ GP C_Group W H' a p') ⟨Same.upd hD, [], rfl, upd_same, fun _ h => nomatch h⟩ (fun _ _ _ h => SqL.of (h.1 _ _ hB15)) ?_ ?_
      · rintro j x H16 H' hj ⟨s16, gs, lg, hD16, hg⟩ ⟨rfl, hx⟩
        obtain ⟨y, us, rfl, hy, my, ly⟩ := rows14 x (List.mem_of_getElem? hx)
        have lj : j < 3 := Nat.lt_of_lt_of_le hj (by rw [List.length_take]; omega)
        refine ⟨rfl, tYes_go ?_⟩
        refine ⟨rfl, _, rfl, y, us, rfl, Or.inl (s16 _ _ hy), few_uni U my (by omega), gone_row U my fun g H17 s17 h17 => ?_⟩
        have hD17 := s17 _ _ hD16
        refine ⟨_, hD17, by omega, sput (s16.trans s17) hD, gs ++ [.ref g], by rw [List.length_append, lg]; rfl, upd_same, fun z hz => ?_⟩
        rcases List.mem_append.mp hz with hz | hz
        · obtain ⟨a, p', rfl, ha⟩ := hg z hz
          exact ⟨a, p', rfl, grp_put (ha.mono s17) hD17⟩
        · rw [List.mem_singleton] at hz
          exact ⟨g, _, hz, grp_put h17 hD17⟩
      rintro H17 ⟨s17, gs, lg, hD17, hg⟩
      have hP17 := hP15.same s17
      refine ⟨_, rfl, D, rfl, ⟨_, SqL.of hD17⟩, ?_⟩
      refine for_it walk_list (fun j σ' H' => Same H17 H' ∧ ∃ x7 x8 x9, σ' = [some (.ref a0), some (.ref p), some (.int (0 + i)), some (.ref W0), some (.ref R4), some (.ref D), x6, x7, x8, x9]) ⟨fun _ _ e => e, _, _, _, rfl⟩ (fun _ _ _ _ h => SqL.of (h.1 _ _ hD17)) ?_ ?_
      · rintro j1 x σ' H18 H19 hj ⟨s18, y7, y8, y9, rfl⟩ ⟨rfl, hx⟩
        obtain ⟨a, p1, rfl, ha⟩ := hg x (List.mem_of_getElem? hx)
        have ha0 := ha
        replace ha := ha.mono s18
        obtain ⟨dx, t, hga, hta, _⟩ := id ha
        refine ⟨rfl, _, rfl, a, dx, _, rfl, hga, a, _, rfl, ha, U.flen, fun H20 s20 => ⟨_, rfl, ?_⟩⟩
        refine ⟨_, rfl, Ris1.filter U.ris _, U.fisw, U.flen, gone_self U fun g1 H21 s21 h21 => ?_⟩
        refine ⟨_, rfl, eqT_go h21 (ha.mono (s20.trans s21)) (fun _ => rfl) ⟨_, rfl, iteF ?_⟩⟩
        have s22 := s20.trans s21
        refine ⟨rfl, _, rfl, a, dx, _, t, _, rfl, s22 _ _ hga, row_get, SqT.of (s22 _ _ hta), by rw [List.length_map]; exact Nat.le_trans U.flen (by decide), fun q hq => ?_⟩
        refine ⟨q, _, rfl, Or.inl upd_same, few_uni U filter_self (Nat.le_trans U.flen (by decide)), gone_self U fun g2 H23 s23 h23 => ?_⟩
        have s24 := s22.trans ((Same.upd (o := .lst ((W.filter p1).map V.str)) hq).trans s23)
        refine ⟨_, rfl, eqT_go h23 (ha.mono s24) (fun _ => rfl) ⟨_, rfl, iteF ?_⟩⟩
        refine ⟨rfl, _, rfl, a, C_Group, dx, _, _, rfl, s24 _ _ hga, S_Group.cl, nr, row_get, t, _, rfl, Or.inr (s24 _ _ hta), few_uni U filter_self (Nat.le_trans U.flen (by decide)), gone_self U fun g3 H25 s25 h25 => ?_⟩
        refine ⟨_, rfl, eqT_go h25 (ha.mono (s24.trans s25)) (fun _ => rfl) ⟨_, rfl, iteF ?_⟩⟩
        have s26 := s18.trans (s24.trans s25)
        refine ⟨_, rfl, D, rfl, ⟨_, SqL.of (s26 _ _ hD17)⟩, ?_⟩
        refine for_it walk_list (fun j σ' H' => Same H17 H' ∧ ∃ x8 x9, σ' = [some (.ref a0), some (.ref p), some (.int (0 + i)), some (.ref W0), some (.ref R4), some (.ref D), x6, some (.ref a), x8, x9]) ⟨s26, _, _, rfl⟩ (fun _ _ _ _ h => SqL.of (h.1 _ _ hD17)) ?_ ?_
        · rintro j2 x σ' H27 H28 hj ⟨s27, z8, z9, rfl⟩ ⟨rfl, hx⟩
          obtain ⟨b, p2, rfl, hb⟩ := hg x (List.mem_of_getElem? hx)
          refine ⟨_, rfl, _, rfl, W, a, b, p1, p2, U, rfl, ha0.mono s27, hb.mono s27, fun H29 s29 => ⟨_, rfl, iteF ?_⟩⟩
          have s30 := s27.trans s29
          refine ⟨_, rfl, D, rfl, ⟨_, SqL.of (s30 _ _ hD17)⟩, ?_⟩
          refine for_it walk_list (fun j σ' H' => Same H17 H' ∧ ∃ x9, σ' = [some (.ref a0), some (.ref p), some (.int (0 + i)), some (.ref W0), some (.ref R4), some (.ref D), x6, some (.ref a), some (.ref b), x9]) ⟨s30, _, rfl⟩ (fun _ _ _ _ h => SqL.of (h.1 _ _ hD17)) ?_ ?_
          · rintro j3 x σ' H31 H32 hj ⟨s31, w9, rfl⟩ ⟨rfl, hx⟩
            obtain ⟨d, p3, rfl, hd⟩ := hg x (List.mem_of_getElem? hx)
            refine ⟨_, rfl, _, rfl, _, rfl, W, a, b, d, p1, p2, p3, U, rfl, ha0.mono s31, hb.mono s31, hd.mono s31, fun H33 s33 => ⟨_, rfl, iteF ?_⟩⟩
            exact ⟨s31.trans s33, _, rfl⟩
          · rintro σ' H31 ⟨s31, w9, rfl⟩
            exact ⟨s31, _, _, rfl⟩
        · rintro σ' H27 ⟨s27, z8, z9, rfl⟩
          exact ⟨s27, _, _, _, rfl⟩
      · rintro σ' H18 ⟨s18, y7, y8, y9, rfl⟩
        exact ⟨(hP17.same s18).mono (by omega), _, _, _, _, _, _, _, _, rfl⟩
    · rintro σ' H1 ⟨hP1, _⟩
      exact k _
end
end
end L06

namespace L06
open PySem PySem.Spec PyProof.Rows L2 Kq StX ClX
theorem all_mk {l : PySem.W.OpenLaw} {w : World} {K : PySem.W.Frag} {h : Heap} {mg : Str → Option Value} {fa : Addr} (X : K.In h) (G : h.Ns mainGlobals mg) (hfa : mg "law" = some (.ref fa))
    {od_is_word an_is_word : Option Addr} {sl_is_word : Array (Option Value)} {oc_is_word kV_is_word dc_is_word pm_is_word cd_is_word ct_is_word : Value} {f_is_word : Addr}
    {od_pen an_pen : Option Addr} {sl_pen : Array (Option Value)} {oc_pen kV_pen dc_pen pm_pen cd_pen ct_pen : Value} {f_pen : Addr}
    {od_draw an_draw : Option Addr} {sl_draw : Array (Option Value)} {oc_draw kV_draw dc_draw pm_draw cd_draw ct_draw : Value} {f_draw : Addr}
    {od_pick an_pick : Option Addr} {sl_pick : Array (Option Value)} {oc_pick kV_pick dc_pick pm_pick cd_pick ct_pick : Value} {f_pick : Addr}
    {od_word an_word : Option Addr} {sl_word : Array (Option Value)} {oc_word kV_word dc_word pm_word cd_word ct_word : Value} {f_word : Addr}
    {od_words an_words : Option Addr} {sl_words : Array (Option Value)} {oc_words kV_words dc_words pm_words cd_words ct_words : Value} {f_words : Addr}
    {od_part an_part : Option Addr} {sl_part : Array (Option Value)} {oc_part kV_part dc_part pm_part cd_part ct_part : Value} {f_part : Addr}
    {od_turned an_turned : Option Addr} {sl_turned : Array (Option Value)} {oc_turned kV_turned dc_turned pm_turned cd_turned ct_turned : Value} {f_turned : Addr}
    {od_pairs an_pairs : Option Addr} {sl_pairs : Array (Option Value)} {oc_pairs kV_pairs dc_pairs pm_pairs cd_pairs ct_pairs : Value} {f_pairs : Addr}
    {od_two an_two : Option Addr} {sl_two : Array (Option Value)} {oc_two kV_two dc_two pm_two cd_two ct_two : Value} {f_two : Addr}
    {od_three an_three : Option Addr} {sl_three : Array (Option Value)} {oc_three kV_three dc_three pm_three cd_three ct_three : Value} {f_three : Addr}
    {od_law an_law : Option Addr} {sl_law : Array (Option Value)} {oc_law kV_law dc_law pm_law cd_law ct_law : Value} {f_law : Addr}
    {C_Group : Addr}
    {od_init an_init : Option Addr} {sl_init : Array (Option Value)} {oc_init kV_init dc_init pm_init cd_init ct_init : Value} {f_init : Addr}
    {od_len an_len : Option Addr} {sl_len : Array (Option Value)} {oc_len kV_len dc_len pm_len cd_len ct_len : Value} {f_len : Addr}
    {od_iter an_iter : Option Addr} {sl_iter : Array (Option Value)} {oc_iter kV_iter dc_iter pm_iter cd_iter ct_iter : Value} {f_iter : Addr}
    {od_contains an_contains : Option Addr} {sl_contains : Array (Option Value)} {oc_contains kV_contains dc_contains pm_contains cd_contains ct_contains : Value} {f_contains : Addr}
    {od_eq an_eq : Option Addr} {sl_eq : Array (Option Value)} {oc_eq kV_eq dc_eq pm_eq cd_eq ct_eq : Value} {f_eq : Addr}
    {od_str an_str : Option Addr} {sl_str : Array (Option Value)} {oc_str kV_str dc_str pm_str cd_str ct_str : Value} {f_str : Addr}
    {od_and an_and : Option Addr} {sl_and : Array (Option Value)} {oc_and kV_and dc_and pm_and cd_and ct_and : Value} {f_and : Addr}
    {od_or an_or : Option Addr} {sl_or : Array (Option Value)} {oc_or kV_or dc_or pm_or cd_or ct_or : Value} {f_or : Addr}
    {od_sub an_sub : Option Addr} {sl_sub : Array (Option Value)} {oc_sub kV_sub dc_sub pm_sub cd_sub ct_sub : Value} {f_sub : Addr}
    {od_xor an_xor : Option Addr} {sl_xor : Array (Option Value)} {oc_xor kV_xor dc_xor pm_xor cd_xor ct_xor : Value} {f_xor : Addr}
    {od_within an_within : Option Addr} {sl_within : Array (Option Value)} {oc_within kV_within dc_within pm_within cd_within ct_within : Value} {f_within : Addr}
    {od_overlaps an_overlaps : Option Addr} {sl_overlaps : Array (Option Value)} {oc_overlaps kV_overlaps dc_overlaps pm_overlaps cd_overlaps ct_overlaps : Value} {f_overlaps : Addr}
    {od_is_ahead an_is_ahead : Option Addr} {sl_is_ahead : Array (Option Value)} {oc_is_ahead kV_is_ahead dc_is_ahead pm_is_ahead cd_is_ahead ct_is_ahead : Value} {f_is_ahead : Addr}
    {od_of an_of : Option Addr} {sl_of : Array (Option Value)} {oc_of kV_of dc_of pm_of cd_of ct_of : Value} {f_of p_of : Addr} {re_of : List Value} {od_read an_read : Option Addr} {sl_read : Array (Option Value)} {oc_read kV_read dc_read pm_read cd_read ct_read : Value} {f_read p_read : Addr} {re_read : List Value} {v_LETTERS : PySem.Str} {t_LETTERS t_MOST : Tok} {v_MOST : Int}
    (a_is_word : PySem.W.nsIn K mainGlobals "is_word" = some (some (.ref f_is_word)))
    (l_is_word : K.lookup f_is_word = some ⟨oc_is_word, od_is_word, .func (PySem.W.fnOf "is_word" "is_word" (defArgs st_is_word) (defBody st_is_word) (defScope st_is_word) .none kV_is_word dc_is_word pm_is_word an_is_word cd_is_word ct_is_word), sl_is_word⟩)
    (c_is_word : PySem.W.codeIn K cd_is_word "is_word" = true)
    (k_is_word : PySem.W.keepIn K (.ref f_is_word) = true)
    (a_pen : PySem.W.nsIn K mainGlobals "_law_pen" = some (some (.ref f_pen)))
    (l_pen : K.lookup f_pen = some ⟨oc_pen, od_pen, .func (PySem.W.fnOf "_law_pen" "_law_pen" (defArgs st_pen) (defBody st_pen) (defScope st_pen) .none kV_pen dc_pen pm_pen an_pen cd_pen ct_pen), sl_pen⟩)
    (c_pen : PySem.W.codeIn K cd_pen "_law_pen" = true)
    (k_pen : PySem.W.keepIn K (.ref f_pen) = true)
    (a_draw : PySem.W.nsIn K mainGlobals "_law_draw" = some (some (.ref f_draw)))
    (l_draw : K.lookup f_draw = some ⟨oc_draw, od_draw, .func (PySem.W.fnOf "_law_draw" "_law_draw" (defArgs st_draw) (defBody st_draw) (defScope st_draw) .none kV_draw dc_draw pm_draw an_draw cd_draw ct_draw), sl_draw⟩)
    (c_draw : PySem.W.codeIn K cd_draw "_law_draw" = true)
    (k_draw : PySem.W.keepIn K (.ref f_draw) = true)
    (a_pick : PySem.W.nsIn K mainGlobals "_law_pick" = some (some (.ref f_pick)))
    (l_pick : K.lookup f_pick = some ⟨oc_pick, od_pick, .func (PySem.W.fnOf "_law_pick" "_law_pick" (defArgs st_pick) (defBody st_pick) (defScope st_pick) .none kV_pick dc_pick pm_pick an_pick cd_pick ct_pick), sl_pick⟩)
    (c_pick : PySem.W.codeIn K cd_pick "_law_pick" = true)
    (k_pick : PySem.W.keepIn K (.ref f_pick) = true)
    (a_word : PySem.W.nsIn K mainGlobals "_law_word" = some (some (.ref f_word)))
    (l_word : K.lookup f_word = some ⟨oc_word, od_word, .func (PySem.W.fnOf "_law_word" "_law_word" (defArgs st_word) (defBody st_word) (defScope st_word) .none kV_word dc_word pm_word an_word cd_word ct_word), sl_word⟩)
    (c_word : PySem.W.codeIn K cd_word "_law_word" = true)
    (k_word : PySem.W.keepIn K (.ref f_word) = true)
    (a_words : PySem.W.nsIn K mainGlobals "_law_words" = some (some (.ref f_words)))
    (l_words : K.lookup f_words = some ⟨oc_words, od_words, .func (PySem.W.fnOf "_law_words" "_law_words" (defArgs st_words) (defBody st_words) (defScope st_words) .none kV_words dc_words pm_words an_words cd_words ct_words), sl_words⟩)
    (c_words : PySem.W.codeIn K cd_words "_law_words" = true)
    (k_words : PySem.W.keepIn K (.ref f_words) = true)
    (a_part : PySem.W.nsIn K mainGlobals "_law_part" = some (some (.ref f_part)))
    (l_part : K.lookup f_part = some ⟨oc_part, od_part, .func (PySem.W.fnOf "_law_part" "_law_part" (defArgs st_part) (defBody st_part) (defScope st_part) .none kV_part dc_part pm_part an_part cd_part ct_part), sl_part⟩)
    (c_part : PySem.W.codeIn K cd_part "_law_part" = true)
    (k_part : PySem.W.keepIn K (.ref f_part) = true)
    (a_turned : PySem.W.nsIn K mainGlobals "_law_turned" = some (some (.ref f_turned)))
    (l_turned : K.lookup f_turned = some ⟨oc_turned, od_turned, .func (PySem.W.fnOf "_law_turned" "_law_turned" (defArgs st_turned) (defBody st_turned) (defScope st_turned) .none kV_turned dc_turned pm_turned an_turned cd_turned ct_turned), sl_turned⟩)
    (c_turned : PySem.W.codeIn K cd_turned "_law_turned" = true)
    (k_turned : PySem.W.keepIn K (.ref f_turned) = true)
    (a_pairs : PySem.W.nsIn K mainGlobals "_law_pairs" = some (some (.ref f_pairs)))
    (l_pairs : K.lookup f_pairs = some ⟨oc_pairs, od_pairs, .func (PySem.W.fnOf "_law_pairs" "_law_pairs" (defArgs st_pairs) (defBody st_pairs) (defScope st_pairs) .none kV_pairs dc_pairs pm_pairs an_pairs cd_pairs ct_pairs), sl_pairs⟩)
    (c_pairs : PySem.W.codeIn K cd_pairs "_law_pairs" = true)
    (k_pairs : PySem.W.keepIn K (.ref f_pairs) = true)
    (a_two : PySem.W.nsIn K mainGlobals "_law_two" = some (some (.ref f_two)))
    (l_two : K.lookup f_two = some ⟨oc_two, od_two, .func (PySem.W.fnOf "_law_two" "_law_two" (defArgs st_two) (defBody st_two) (defScope st_two) .none kV_two dc_two pm_two an_two cd_two ct_two), sl_two⟩)
    (c_two : PySem.W.codeIn K cd_two "_law_two" = true)
    (k_two : PySem.W.keepIn K (.ref f_two) = true)
    (a_three : PySem.W.nsIn K mainGlobals "_law_three" = some (some (.ref f_three)))
    (l_three : K.lookup f_three = some ⟨oc_three, od_three, .func (PySem.W.fnOf "_law_three" "_law_three" (defArgs st_three) (defBody st_three) (defScope st_three) .none kV_three dc_three pm_three an_three cd_three ct_three), sl_three⟩)
    (c_three : PySem.W.codeIn K cd_three "_law_three" = true)
    (k_three : PySem.W.keepIn K (.ref f_three) = true)
    (a_law : PySem.W.nsIn K mainGlobals "law" = some (some (.ref f_law)))
    (l_law : K.lookup f_law = some ⟨oc_law, od_law, .func (PySem.W.fnOf "law" "law" (defArgs st_law) (defBody st_law) (defScope st_law) .none kV_law dc_law pm_law an_law cd_law ct_law), sl_law⟩)
    (c_law : PySem.W.codeIn K cd_law "law" = true)
    (k_law : PySem.W.keepIn K (.ref f_law) = true)
    (aC_Group : PySem.W.nsIn K mainGlobals "Group" = some (some (.ref C_Group)))
    (pg_Group : PySem.W.plainGet K C_Group Str.empty = true)
    (hd_Group : PySem.W.hasDictIn K C_Group = true)
    (po_Group : PySem.W.plainOver K C_Group = true)
    (sa_Group : PySem.W.findIn K (.ref C_Group) "__setattr__" = some (some (.builtin "object.__setattr__")))
    (mk_Group : PySem.W.makesIn K C_Group = true)
    (kc_Group : PySem.W.keepIn K (.ref C_Group) = true)
    (a_init : PySem.W.findIn K (.ref C_Group) "__init__" = some (some (.ref f_init)))
    (i_init : PySem.W.isFn K (.ref f_init) = true)
    (l_init : K.lookup f_init = some ⟨oc_init, od_init, .func (PySem.W.fnOf "__init__" "Group.__init__" (defArgs st_Group_init) (defBody st_Group_init) (defScope st_Group_init) .none kV_init dc_init pm_init an_init cd_init ct_init), sl_init⟩)
    (c_init : PySem.W.codeIn K cd_init "Group.__init__" = true)
    (k_init : PySem.W.keepIn K (.ref f_init) = true)
    (a_len : PySem.W.findIn K (.ref C_Group) "__len__" = some (some (.ref f_len)))
    (i_len : PySem.W.isFn K (.ref f_len) = true)
    (l_len : K.lookup f_len = some ⟨oc_len, od_len, .func (PySem.W.fnOf "__len__" "Group.__len__" (defArgs st_Group_len) (defBody st_Group_len) (defScope st_Group_len) .none kV_len dc_len pm_len an_len cd_len ct_len), sl_len⟩)
    (c_len : PySem.W.codeIn K cd_len "Group.__len__" = true)
    (k_len : PySem.W.keepIn K (.ref f_len) = true)
    (a_iter : PySem.W.findIn K (.ref C_Group) "__iter__" = some (some (.ref f_iter)))
    (i_iter : PySem.W.isFn K (.ref f_iter) = true)
    (l_iter : K.lookup f_iter = some ⟨oc_iter, od_iter, .func (PySem.W.fnOf "__iter__" "Group.__iter__" (defArgs st_Group_iter) (defBody st_Group_iter) (defScope st_Group_iter) .none kV_iter dc_iter pm_iter an_iter cd_iter ct_iter), sl_iter⟩)
    (c_iter : PySem.W.codeIn K cd_iter "Group.__iter__" = true)
    (k_iter : PySem.W.keepIn K (.ref f_iter) = true)
    (a_contains : PySem.W.findIn K (.ref C_Group) "__contains__" = some (some (.ref f_contains)))
    (i_contains : PySem.W.isFn K (.ref f_contains) = true)
    (l_contains : K.lookup f_contains = some ⟨oc_contains, od_contains, .func (PySem.W.fnOf "__contains__" "Group.__contains__" (defArgs st_Group_contains) (defBody st_Group_contains) (defScope st_Group_contains) .none kV_contains dc_contains pm_contains an_contains cd_contains ct_contains), sl_contains⟩)
    (c_contains : PySem.W.codeIn K cd_contains "Group.__contains__" = true)
    (k_contains : PySem.W.keepIn K (.ref f_contains) = true)
    (a_eq : PySem.W.findIn K (.ref C_Group) "__eq__" = some (some (.ref f_eq)))
    (i_eq : PySem.W.isFn K (.ref f_eq) = true)
    (l_eq : K.lookup f_eq = some ⟨oc_eq, od_eq, .func (PySem.W.fnOf "__eq__" "Group.__eq__" (defArgs st_Group_eq) (defBody st_Group_eq) (defScope st_Group_eq) .none kV_eq dc_eq pm_eq an_eq cd_eq ct_eq), sl_eq⟩)
    (c_eq : PySem.W.codeIn K cd_eq "Group.__eq__" = true)
    (k_eq : PySem.W.keepIn K (.ref f_eq) = true)
    (a_str : PySem.W.findIn K (.ref C_Group) "__str__" = some (some (.ref f_str)))
    (i_str : PySem.W.isFn K (.ref f_str) = true)
    (l_str : K.lookup f_str = some ⟨oc_str, od_str, .func (PySem.W.fnOf "__str__" "Group.__str__" (defArgs st_Group_str) (defBody st_Group_str) (defScope st_Group_str) .none kV_str dc_str pm_str an_str cd_str ct_str), sl_str⟩)
    (c_str : PySem.W.codeIn K cd_str "Group.__str__" = true)
    (k_str : PySem.W.keepIn K (.ref f_str) = true)
    (a_and : PySem.W.findIn K (.ref C_Group) "__and__" = some (some (.ref f_and)))
    (i_and : PySem.W.isFn K (.ref f_and) = true)
    (l_and : K.lookup f_and = some ⟨oc_and, od_and, .func (PySem.W.fnOf "__and__" "Group.__and__" (defArgs st_Group_and) (defBody st_Group_and) (defScope st_Group_and) .none kV_and dc_and pm_and an_and cd_and ct_and), sl_and⟩)
    (c_and : PySem.W.codeIn K cd_and "Group.__and__" = true)
    (k_and : PySem.W.keepIn K (.ref f_and) = true)
    (a_or : PySem.W.findIn K (.ref C_Group) "__or__" = some (some (.ref f_or)))
    (i_or : PySem.W.isFn K (.ref f_or) = true)
    (l_or : K.lookup f_or = some ⟨oc_or, od_or, .func (PySem.W.fnOf "__or__" "Group.__or__" (defArgs st_Group_or) (defBody st_Group_or) (defScope st_Group_or) .none kV_or dc_or pm_or an_or cd_or ct_or), sl_or⟩)
    (c_or : PySem.W.codeIn K cd_or "Group.__or__" = true)
    (k_or : PySem.W.keepIn K (.ref f_or) = true)
    (a_sub : PySem.W.findIn K (.ref C_Group) "__sub__" = some (some (.ref f_sub)))
    (i_sub : PySem.W.isFn K (.ref f_sub) = true)
    (l_sub : K.lookup f_sub = some ⟨oc_sub, od_sub, .func (PySem.W.fnOf "__sub__" "Group.__sub__" (defArgs st_Group_sub) (defBody st_Group_sub) (defScope st_Group_sub) .none kV_sub dc_sub pm_sub an_sub cd_sub ct_sub), sl_sub⟩)
    (c_sub : PySem.W.codeIn K cd_sub "Group.__sub__" = true)
    (k_sub : PySem.W.keepIn K (.ref f_sub) = true)
    (a_xor : PySem.W.findIn K (.ref C_Group) "__xor__" = some (some (.ref f_xor)))
    (i_xor : PySem.W.isFn K (.ref f_xor) = true)
    (l_xor : K.lookup f_xor = some ⟨oc_xor, od_xor, .func (PySem.W.fnOf "__xor__" "Group.__xor__" (defArgs st_Group_xor) (defBody st_Group_xor) (defScope st_Group_xor) .none kV_xor dc_xor pm_xor an_xor cd_xor ct_xor), sl_xor⟩)
    (c_xor : PySem.W.codeIn K cd_xor "Group.__xor__" = true)
    (k_xor : PySem.W.keepIn K (.ref f_xor) = true)
    (a_within : PySem.W.findIn K (.ref C_Group) "within" = some (some (.ref f_within)))
    (i_within : PySem.W.isFn K (.ref f_within) = true)
    (l_within : K.lookup f_within = some ⟨oc_within, od_within, .func (PySem.W.fnOf "within" "Group.within" (defArgs st_Group_within) (defBody st_Group_within) (defScope st_Group_within) .none kV_within dc_within pm_within an_within cd_within ct_within), sl_within⟩)
    (c_within : PySem.W.codeIn K cd_within "Group.within" = true)
    (k_within : PySem.W.keepIn K (.ref f_within) = true)
    (a_overlaps : PySem.W.findIn K (.ref C_Group) "overlaps" = some (some (.ref f_overlaps)))
    (i_overlaps : PySem.W.isFn K (.ref f_overlaps) = true)
    (l_overlaps : K.lookup f_overlaps = some ⟨oc_overlaps, od_overlaps, .func (PySem.W.fnOf "overlaps" "Group.overlaps" (defArgs st_Group_overlaps) (defBody st_Group_overlaps) (defScope st_Group_overlaps) .none kV_overlaps dc_overlaps pm_overlaps an_overlaps cd_overlaps ct_overlaps), sl_overlaps⟩)
    (c_overlaps : PySem.W.codeIn K cd_overlaps "Group.overlaps" = true)
    (k_overlaps : PySem.W.keepIn K (.ref f_overlaps) = true)
    (a_is_ahead : PySem.W.findIn K (.ref C_Group) "is_ahead" = some (some (.ref f_is_ahead)))
    (i_is_ahead : PySem.W.isFn K (.ref f_is_ahead) = true)
    (l_is_ahead : K.lookup f_is_ahead = some ⟨oc_is_ahead, od_is_ahead, .func (PySem.W.fnOf "is_ahead" "Group.is_ahead" (defArgs st_Group_is_ahead) (defBody st_Group_is_ahead) (defScope st_Group_is_ahead) .none kV_is_ahead dc_is_ahead pm_is_ahead an_is_ahead cd_is_ahead ct_is_ahead), sl_is_ahead⟩)
    (c_is_ahead : PySem.W.codeIn K cd_is_ahead "Group.is_ahead" = true)
    (k_is_ahead : PySem.W.keepIn K (.ref f_is_ahead) = true)
    (nr : PySem.W.findIn K (.ref C_Group) "row" = some none)
    (ha : PySem.W.findIn K (.ref C_Group) "__class__" = some (some (.builtin "object.__class__")))
    (hn : PySem.W.specialIn K (.builtin "object.__class__") "__get__" = some (some (.builtin "getset_descriptor.__get__")))
    (htk : PySem.W.takesIn K (.builtin "object.__class__") = some true)
    (ho : PySem.W.mroIn K C_Group (.type "object") = some true)
    (ct : PySem.W.typeIn K (.ref C_Group) = some (.type "type"))
    (hne : PySem.W.findIn K (.ref C_Group) "__ne__" = some (some (.builtin "object.__ne__")))
    (slf : PySem.W.selfFirst K C_Group = true)
    (rd : PySem.W.readsIn K C_Group (.type "type") = true)
    (rga : PySem.W.specialIn K (.ref C_Group) "__getattribute__" = some (some (.builtin "type.__getattribute__")))
    (cm_of : PySem.W.findCls K (.ref C_Group) (.type "type") "of" = some (.get (.builtin "classmethod.__get__") (.ref p_of) .none (.ref C_Group)))
    (rc_of : PySem.W.recIn K p_of "classmethod" = some (.ref f_of :: re_of))
    (fi_of : PySem.W.fnIn K f_of = true)
    (l_of : K.lookup f_of = some ⟨oc_of, od_of, .func (PySem.W.fnOf "of" "Group.of" (defArgs st_Group_of) (defBody st_Group_of) (defScope st_Group_of) .none kV_of dc_of pm_of an_of cd_of ct_of), sl_of⟩)
    (c_of : PySem.W.codeIn K cd_of "Group.of" = true)
    (k_of : PySem.W.keepIn K (.ref f_of) = true)
    (cm_read : PySem.W.findCls K (.ref C_Group) (.type "type") "read" = some (.get (.builtin "classmethod.__get__") (.ref p_read) .none (.ref C_Group)))
    (rc_read : PySem.W.recIn K p_read "classmethod" = some (.ref f_read :: re_read))
    (fi_read : PySem.W.fnIn K f_read = true)
    (l_read : K.lookup f_read = some ⟨oc_read, od_read, .func (PySem.W.fnOf "read" "Group.read" (defArgs st_Group_read) (defBody st_Group_read) (defScope st_Group_read) .none kV_read dc_read pm_read an_read cd_read ct_read), sl_read⟩)
    (c_read : PySem.W.codeIn K cd_read "Group.read" = true)
    (k_read : PySem.W.keepIn K (.ref f_read) = true)
    (g_LETTERS : PySem.W.nsIn K mainGlobals "LETTERS" = some (some (.str v_LETTERS t_LETTERS)))
    (e_LETTERS : v_LETTERS = ALPH)
    (g_MOST : PySem.W.nsIn K mainGlobals "MOST_WORDS" = some (some (.int v_MOST t_MOST)))
    (e_MOST : v_MOST = 24)
    (z_len : PySem.W.nsIn K mainGlobals "len" = some none)
    (z_int : PySem.W.nsIn K mainGlobals "int" = some none)
    (z_abs : PySem.W.nsIn K mainGlobals "abs" = some none)
    (z_list : PySem.W.nsIn K mainGlobals "list" = some none)
    (z_range : PySem.W.nsIn K mainGlobals "range" = some none)
    (z_repr : PySem.W.nsIn K mainGlobals "repr" = some none)
    (z_str : PySem.W.nsIn K mainGlobals "str" = some none)
    (z_tuple : PySem.W.nsIn K mainGlobals "tuple" = some none)
    (z_isinstance : PySem.W.nsIn K mainGlobals "isinstance" = some none)
    (z_sorted : PySem.W.nsIn K mainGlobals "sorted" = some none)
    (z_set : PySem.W.nsIn K mainGlobals "set" = some none)
    (z_iter : PySem.W.nsIn K mainGlobals "iter" = some none)
    (z_all : PySem.W.nsIn K mainGlobals "all" = some none)
    (z_min : PySem.W.nsIn K mainGlobals "min" = some none)
    (z_enumerate : PySem.W.nsIn K mainGlobals "enumerate" = some none)
    : ∃ fd : FuncData, (∀ (s : Shared) (v : Value), BindsTo s fd ⟨[v], []⟩ [("_law_script", v)]) ∧ ∀ base : Heap, K.In base → base.Ns mainGlobals mg → (∃ o, base.get? sysModules = some o) → FnG l.prog w K mg base CX0 6 fa fd ps_law (spLaw K) := by
  have e := hfa.symm.trans (PySem.W.mg_of X G a_law)
  cases e
  subst e_LETTERS e_MOST
  have z := fun {x : Str} (h : PySem.W.nsIn K mainGlobals x = some none) => PySem.W.mg_none_of X G h
  have T : Txt K mg := ⟨z z_len, z z_int, z z_abs, z z_list, z z_range, z z_repr, z z_str, z z_tuple, z z_isinstance, z z_sorted, z z_set, z z_iter, z z_all, z z_min, z z_enumerate, ⟨_, PySem.W.mg_of X G g_LETTERS, _, rfl⟩, ⟨_, PySem.W.mg_of X G g_MOST, _, rfl⟩⟩
  have S : ClsI K mg "Group" C_Group := ⟨PySem.W.mg_of X G aC_Group, ⟨pg_Group, hd_Group, po_Group, sa_Group⟩, ha, hn, htk, ho, ct⟩
  have F_is_word := fun_mk (st := st_is_word) l_is_word c_is_word k_is_word
  have F_pen := fun_mk (st := st_pen) l_pen c_pen k_pen
  have F_draw := fun_mk (st := st_draw) l_draw c_draw k_draw
  have F_pick := fun_mk (st := st_pick) l_pick c_pick k_pick
  have F_word := fun_mk (st := st_word) l_word c_word k_word
  have F_words := fun_mk (st := st_words) l_words c_words k_words
  have F_part := fun_mk (st := st_part) l_part c_part k_part
  have F_turned := fun_mk (st := st_turned) l_turned c_turned k_turned
  have F_pairs := fun_mk (st := st_pairs) l_pairs c_pairs k_pairs
  have F_two := fun_mk (st := st_two) l_two c_two k_two
  have F_three := fun_mk (st := st_three) l_three c_three k_three
  have F_law := fun_mk (st := st_law) l_law c_law k_law
  have F_init := fun_mk (st := st_Group_init) l_init c_init k_init
  have F_len := fun_mk (st := st_Group_len) l_len c_len k_len
  have F_iter := fun_mk (st := st_Group_iter) l_iter c_iter k_iter
  have F_contains := fun_mk (st := st_Group_contains) l_contains c_contains k_contains
  have F_eq := fun_mk (st := st_Group_eq) l_eq c_eq k_eq
  have F_str := fun_mk (st := st_Group_str) l_str c_str k_str
  have F_and := fun_mk (st := st_Group_and) l_and c_and k_and
  have F_or := fun_mk (st := st_Group_or) l_or c_or k_or
  have F_sub := fun_mk (st := st_Group_sub) l_sub c_sub k_sub
  have F_xor := fun_mk (st := st_Group_xor) l_xor c_xor k_xor
  have F_within := fun_mk (st := st_Group_within) l_within c_within k_within
  have F_overlaps := fun_mk (st := st_Group_overlaps) l_overlaps c_overlaps k_overlaps
  have F_is_ahead := fun_mk (st := st_Group_is_ahead) l_is_ahead c_is_ahead k_is_ahead
  have F_of := fun_mk (st := st_Group_of) l_of c_of k_of
  have F_read := fun_mk (st := st_Group_read) l_read c_read k_read
  have b_is_word := F_is_word.binds (ps := ps_is_word) fun _ _ _ _ _ _ us hl => match us, hl with | [_], _ => rfl
  have b_pen := F_pen.binds (ps := ps_pen) fun _ _ _ _ _ _ us hl => match us, hl with | [_], _ => rfl
  have b_draw := F_draw.binds (ps := ps_draw) fun _ _ _ _ _ _ us hl => match us, hl with | [_, _], _ => rfl
  have b_pick := F_pick.binds (ps := ps_pick) fun _ _ _ _ _ _ us hl => match us, hl with | [_, _], _ => rfl
  have b_word := F_word.binds (ps := ps_word) fun _ _ _ _ _ _ us hl => match us, hl with | [_], _ => rfl
  have b_words := F_words.binds (ps := ps_words) fun _ _ _ _ _ _ us hl => match us, hl with | [_, _], _ => rfl
  have b_part := F_part.binds (ps := ps_part) fun _ _ _ _ _ _ us hl => match us, hl with | [_, _, _], _ => rfl
  have b_turned := F_turned.binds (ps := ps_turned) fun _ _ _ _ _ _ us hl => match us, hl with | [_, _], _ => rfl
  have b_pairs := F_pairs.binds (ps := ps_pairs) fun _ _ _ _ _ _ us hl => match us, hl with | [_, _], _ => rfl
  have b_two := F_two.binds (ps := ps_two) fun _ _ _ _ _ _ us hl => match us, hl with | [_, _], _ => rfl
  have b_three := F_three.binds (ps := ps_three) fun _ _ _ _ _ _ us hl => match us, hl with | [_, _, _], _ => rfl
  have b_len := F_len.binds (ps := ps_Group_len) fun _ _ _ _ _ _ us hl => match us, hl with | [_], _ => rfl
  have b_iter := F_iter.binds (ps := ps_Group_iter) fun _ _ _ _ _ _ us hl => match us, hl with | [_], _ => rfl
  have b_contains := F_contains.binds (ps := ps_Group_contains) fun _ _ _ _ _ _ us hl => match us, hl with | [_, _], _ => rfl
  have b_eq := F_eq.binds (ps := ps_Group_eq) fun _ _ _ _ _ _ us hl => match us, hl with | [_, _], _ => rfl
  have b_str := F_str.binds (ps := ps_Group_str) fun _ _ _ _ _ _ us hl => match us, hl with | [_], _ => rfl
  have b_and := F_and.binds (ps := ps_Group_and) fun _ _ _ _ _ _ us hl => match us, hl with | [_, _], _ => rfl
  have b_or := F_or.binds (ps := ps_Group_or) fun _ _ _ _ _ _ us hl => match us, hl with | [_, _], _ => rfl
  have b_sub := F_sub.binds (ps := ps_Group_sub) fun _ _ _ _ _ _ us hl => match us, hl with | [_, _], _ => rfl
  have b_xor := F_xor.binds (ps := ps_Group_xor) fun _ _ _ _ _ _ us hl => match us, hl with | [_, _], _ => rfl
  have b_within := F_within.binds (ps := ps_Group_within) fun _ _ _ _ _ _ us hl => match us, hl with | [_, _], _ => rfl
  have b_overlaps := F_overlaps.binds (ps := ps_Group_overlaps) fun _ _ _ _ _ _ us hl => match us, hl with | [_, _], _ => rfl
  have b_is_ahead := F_is_ahead.binds (ps := ps_Group_is_ahead) fun _ _ _ _ _ _ us hl => match us, hl with | [_, _], _ => rfl
  have b_of := F_of.binds (ps := ps_Group_of) fun _ _ _ _ _ _ us hl => match us, hl with | [_, _], _ => rfl
  have b_read := F_read.binds (ps := ps_Group_read) fun _ _ _ _ _ _ us hl => match us, hl with | [_, _], _ => rfl
  refine ⟨PySem.W.fnOf "law" "law" (defArgs st_law) (defBody st_law) (defScope st_law) .none kV_law dc_law pm_law an_law cd_law ct_law, fun s v => .of_eq rfl, fun base _ _ SY => ?_⟩
  have g := fun {x : Str} {f : Addr} (h : PySem.W.nsIn K mainGlobals x = some (some (.ref f))) => PySem.W.mg_of X G h
  have P_is_word : Prom l.prog w K mg base 1 "is_word" ps_is_word spIsWord := ⟨_, _, g a_is_word, k_is_word, b_is_word, ok_is_word F_is_word T⟩
  have P_pen : Prom l.prog w K mg base 1 "_law_pen" ps_pen (spPen K) := ⟨_, _, g a_pen, k_pen, b_pen, ok_pen F_pen T⟩
  have P_draw : Prom l.prog w K mg base 1 "_law_draw" ps_draw spDraw := ⟨_, _, g a_draw, k_draw, b_draw, ok_draw F_draw T⟩
  have P_pick : Prom l.prog w K mg base 2 "_law_pick" ps_pick spPick := ⟨_, _, g a_pick, k_pick, b_pick, ok_pick F_pick T P_draw⟩
  have P_word : Prom l.prog w K mg base 3 "_law_word" ps_word spWord := ⟨_, _, g a_word, k_word, b_word, ok_word F_word T P_pick⟩
  have P_words : Prom l.prog w K mg base 4 "_law_words" ps_words spWords := ⟨_, _, g a_words, k_words, b_words, ok_words F_words T P_word⟩
  have P_part : Prom l.prog w K mg base 3 "_law_part" ps_part spPart := ⟨_, _, g a_part, k_part, b_part, ok_part F_part T P_draw P_pick⟩
  have P_turned : Prom l.prog w K mg base 2 "_law_turned" ps_turned spTurned := ⟨_, _, g a_turned, k_turned, b_turned, ok_turned F_turned T P_draw⟩
  have MR : MkR l.prog w K mg base 2 C_Group (spGInitR C_Group) := ⟨_, ⟨mk_Group, a_init, i_init, kc_Group⟩, ok_ginit F_init T S nr P_is_word fun us rest hl => match us, rest, hl with | [_], [], _ => rfl | [_], _ :: _, _ => rfl⟩
  have I_ : ItProm l.prog w K mg base 1 C_Group "row" := ⟨_, _, _, a_iter, i_iter, b_iter, ok_iter F_iter T S nr⟩
  have O : GOps l.prog w K mg base C_Group := ⟨⟨_, _, _, a_and, i_and, b_and, ok_and F_and T S nr MR⟩, ⟨_, _, _, a_or, i_or, b_or, ok_or F_or T S nr MR⟩, ⟨_, _, _, a_sub, i_sub, b_sub, ok_sub F_sub T S nr MR⟩, ⟨_, _, _, a_xor, i_xor, b_xor, ok_xor F_xor T S nr MR⟩,
    ⟨_, _, _, ⟨a_eq, i_eq, hne, ho⟩, b_eq, ok_geq F_eq T S nr⟩, ⟨_, _, _, a_len, i_len, b_len, ok_len F_len T S nr⟩, ⟨_, _, _, a_contains, i_contains, b_contains, ok_contains F_contains T S nr⟩, I_, slf,
    ⟨_, _, _, ⟨a_within, i_within, k_within⟩, b_within, ok_within F_within T S nr⟩, ⟨_, _, _, ⟨a_overlaps, i_overlaps, k_overlaps⟩, b_overlaps, ok_overlaps F_overlaps T S nr⟩, ⟨_, _, _, ⟨a_is_ahead, i_is_ahead, k_is_ahead⟩, b_is_ahead, ok_ahead F_is_ahead T S nr⟩, nr⟩
  have CR : CRead K C_Group (.type "type") := ⟨rd, rga⟩
  have P_of : CmProm l.prog w K mg base 4 C_Group "of" (spOf K C_Group) := ⟨_, _, _, CR, ⟨cm_of, ⟨_, rc_of⟩, fi_of⟩, Kq.FnOk.toR (ok_of F_of T S MR) b_of⟩
  have P_read : CmProm l.prog w K mg base 4 C_Group "read" (spRead C_Group) := ⟨_, _, _, CR, ⟨cm_read, ⟨_, rc_read⟩, fi_read⟩, Kq.FnOk.toR (ok_read F_read T S MR P_is_word) b_read⟩
  have P_str : StrProm l.prog w K mg base 1 C_Group (spGStr C_Group) := ⟨_, _, _, ⟨a_str, i_str⟩, b_str, ok_gstr F_str T S nr⟩
  have P_pairsO : Prom l.prog w K mg base 2 "_law_pairs" ps_pairs (spPairsO C_Group) := ⟨_, _, g a_pairs, k_pairs, b_pairs, ok_pairsO F_pairs I_⟩
  have P_pairsT : Prom l.prog w K mg base 1 "_law_pairs" ps_pairs spPairsT := ⟨_, _, g a_pairs, k_pairs, b_pairs, ok_pairsT F_pairs⟩
  have P_two : PromG l.prog w K mg base 5 "_law_two" ps_two (spTwo C_Group) := ⟨_, _, g a_two, k_two, b_two, ok_two F_two T S O P_pairsO P_pairsT SY⟩
  have P_three : Prom l.prog w K mg base 5 "_law_three" ps_three (spThree C_Group) := ⟨_, _, g a_three, k_three, b_three, ok_three F_three S O⟩
  exact ok_law F_law T S O P_pen P_pick P_words P_part P_turned P_two P_three P_of P_read P_str
end L06
open PySem PySem.W PyProof.Rows in
set_option maxRecDepth 100000 in
set_option maxHeartbeats 0 in
theorem PySem.Challenge.cw_keptphrases_k06_whole_sets_of_words_holds : PySem.Challenge.rw_keptphrases_k06_whole_sets_of_words.Holds := by
  w_on; o_law; k_head; (case hw => w_witness2)
  k_fill
  refine Kq.own_walk (by decide +kernel) (k := 6) (x := "_law_script") (sp := fun K => L06.spLaw K) (l := PySem.Challenge.rw_keptphrases_k06_whole_sets_of_words) (n := 63) rfl (by decide) rfl ⟨rfl, by decide, by decide⟩ (fun w h Y => PySem.W.kIn_of Y) ?F (fun K H a ns hl hS => ⟨a, ns, rfl, hS, hl, fun _ => rfl⟩)
  case F =>
    intro w mg fa h KX G hmg
    refine' L06.all_mk KX G hmg ?a_is_word ?l_is_word ?c_is_word ?k_is_word ?a_pen ?l_pen ?c_pen ?k_pen ?a_draw ?l_draw ?c_draw ?k_draw ?a_pick ?l_pick ?c_pick ?k_pick ?a_word ?l_word ?c_word ?k_word ?a_words ?l_words ?c_words ?k_words ?a_part ?l_part ?c_part ?k_part ?a_turned ?l_turned ?c_turned ?k_turned ?a_pairs ?l_pairs ?c_pairs ?k_pairs ?a_two ?l_two ?c_two ?k_two ?a_three ?l_three ?c_three ?k_three ?a_law ?l_law ?c_law ?k_law ?aC_Group ?pg_Group ?hd_Group ?po_Group ?sa_Group ?mk_Group ?kc_Group ?a_init ?i_init ?l_init ?c_init ?k_init ?a_len ?i_len ?l_len ?c_len ?k_len ?a_iter ?i_iter ?l_iter ?c_iter ?k_iter ?a_contains ?i_contains ?l_contains ?c_contains ?k_contains ?a_eq ?i_eq ?l_eq ?c_eq ?k_eq ?a_str ?i_str ?l_str ?c_str ?k_str ?a_and ?i_and ?l_and ?c_and ?k_and ?a_or ?i_or ?l_or ?c_or ?k_or ?a_sub ?i_sub ?l_sub ?c_sub ?k_sub ?a_xor ?i_xor ?l_xor ?c_xor ?k_xor ?a_within ?i_within ?l_within ?c_within ?k_within ?a_overlaps ?i_overlaps ?l_overlaps ?c_overlaps ?k_overlaps ?a_is_ahead ?i_is_ahead ?l_is_ahead ?c_is_ahead ?k_is_ahead ?nr ?ha ?hn ?htk ?ho ?ct ?hne ?slf ?rd ?rga ?cm_of ?rc_of ?fi_of ?l_of ?c_of ?k_of ?cm_read ?rc_read ?fi_read ?l_read ?c_read ?k_read ?g_LETTERS ?e_LETTERS ?g_MOST ?e_MOST ?z_len ?z_int ?z_abs ?z_list ?z_range ?z_repr ?z_str ?z_tuple ?z_isinstance ?z_sorted ?z_set ?z_iter ?z_all ?z_min ?z_enumerate
    (case a_is_word => k_is)
    (case l_is_word => k_is)
    (case c_is_word => k_is)
    (case k_is_word => k_is)
    (case a_pen => k_is)
    (case l_pen => k_is)
    (case c_pen => k_is)
    (case k_pen => k_is)
    (case a_draw => k_is)
    (case l_draw => k_is)
    (case c_draw => k_is)
    (case k_draw => k_is)
    (case a_pick => k_is)
    (case l_pick => k_is)
    (case c_pick => k_is)
    (case k_pick => k_is)
    (case a_word => k_is)
    (case l_word => k_is)
    (case c_word => k_is)
    (case k_word => k_is)
    (case a_words => k_is)
    (case l_words => k_is)
    (case c_words => k_is)
    (case k_words => k_is)
    (case a_part => k_is)
    (case l_part => k_is)
    (case c_part => k_is)
    (case k_part => k_is)
    (case a_turned => k_is)
    (case l_turned => k_is)
    (case c_turned => k_is)
    (case k_turned => k_is)
    (case a_pairs => k_is)
    (case l_pairs => k_is)
    (case c_pairs => k_is)
    (case k_pairs => k_is)
    (case a_two => k_is)
    (case l_two => k_is)
    (case c_two => k_is)
    (case k_two => k_is)
    (case a_three => k_is)
    (case l_three => k_is)
    (case c_three => k_is)
    (case k_three => k_is)
    (case a_law => k_is)
    (case l_law => k_is)
    (case c_law => k_is)
    (case k_law => k_is)
    (case aC_Group => k_is)
    (case pg_Group => k_is)
    (case hd_Group => k_is)
    (case po_Group => k_is)
    (case sa_Group => k_is)
    (case mk_Group => k_is)
    (case kc_Group => k_is)
    (case a_init => k_is)
    (case i_init => k_is)
    (case l_init => k_is)
    (case c_init => k_is)
    (case k_init => k_is)
    (case a_len => k_is)
    (case i_len => k_is)
    (case l_len => k_is)
    (case c_len => k_is)
    (case k_len => k_is)
    (case a_iter => k_is)
    (case i_iter => k_is)
    (case l_iter => k_is)
    (case c_iter => k_is)
    (case k_iter => k_is)
    (case a_contains => k_is)
    (case i_contains => k_is)
    (case l_contains => k_is)
    (case c_contains => k_is)
    (case k_contains => k_is)
    (case a_eq => k_is)
    (case i_eq => k_is)
    (case l_eq => k_is)
    (case c_eq => k_is)
    (case k_eq => k_is)
    (case a_str => k_is)
    (case i_str => k_is)
    (case l_str => k_is)
    (case c_str => k_is)
    (case k_str => k_is)
    (case a_and => k_is)
    (case i_and => k_is)
    (case l_and => k_is)
    (case c_and => k_is)
    (case k_and => k_is)
    (case a_or => k_is)
    (case i_or => k_is)
    (case l_or => k_is)
    (case c_or => k_is)
    (case k_or => k_is)
    (case a_sub => k_is)
    (case i_sub => k_is)
    (case l_sub => k_is)
    (case c_sub => k_is)
    (case k_sub => k_is)
    (case a_xor => k_is)
    (case i_xor => k_is)
    (case l_xor => k_is)
    (case c_xor => k_is)
    (case k_xor => k_is)
    (case a_within => k_is)
    (case i_within => k_is)
    (case l_within => k_is)
    (case c_within => k_is)
    (case k_within => k_is)
    (case a_overlaps => k_is)
    (case i_overlaps => k_is)
    (case l_overlaps => k_is)
    (case c_overlaps => k_is)
    (case k_overlaps => k_is)
    (case a_is_ahead => k_is)
    (case i_is_ahead => k_is)
    (case l_is_ahead => k_is)
    (case c_is_ahead => k_is)
    (case k_is_ahead => k_is)
    (case nr => k_is)
    (case ha => k_is)
    (case hn => k_is)
    (case htk => k_is)
    (case ho => k_is)
    (case ct => k_is)
    (case hne => k_is)
    (case slf => k_is)
    (case rd => k_is)
    (case rga => k_is)
    (case cm_of => k_is)
    (case rc_of => k_is)
    (case fi_of => k_is)
    (case l_of => k_is)
    (case c_of => k_is)
    (case k_of => k_is)
    (case cm_read => k_is)
    (case rc_read => k_is)
    (case fi_read => k_is)
    (case l_read => k_is)
    (case c_read => k_is)
    (case k_read => k_is)
    (case g_LETTERS => k_is)
    (case e_LETTERS => decide +kernel)
    (case g_MOST => k_is)
    (case e_MOST => decide +kernel)
    (case z_len => k_is)
    (case z_int => k_is)
    (case z_abs => k_is)
    (case z_list => k_is)
    (case z_range => k_is)
    (case z_repr => k_is)
    (case z_str => k_is)
    (case z_tuple => k_is)
    (case z_isinstance => k_is)
    (case z_sorted => k_is)
    (case z_set => k_is)
    (case z_iter => k_is)
    (case z_all => k_is)
    (case z_min => k_is)
    (case z_enumerate => k_is)
