import PyProof.Rows.All
import KE.OsRunLaw
import KE.KNestM
import Wide.All
import OpenK.AllK
import Wide.FinOn
import HandS.ForMost
import HandS.Exc
import PyProof.ReprRoads
import KE.KEqNest
import HandS.More
import HandS.MakeKw
import HandS.TupAny
import HandS.Codes
import HandS.FStr
import HandS.RaiseMore
import HandS.Zip
import HandS.Style
import HandS.Walk
import HandS.IsInst
import KE.KCallOwn
import HandS.Set
import HandS.SetFor
import HandS.Strs
import PyProof.Rows.SortShellAny
import HandS.IterVal
import HandS.Star
import HandS.ClsMeth
import KE.LtData
import PyProof.StrLawsTight
import PyProof.StrLawsChain
import PyProof.Rows.StrItems
import KE.KExcSuper
import HandS.Base
import HandS.Call
import HandS.ExcInit
import HandS.ExcValue
import HandS.ExcIs
import HandS.ExcField
import KE.KExcIs
import HandS.EndTab
import HandS.Flow
import KE.GoesMore
import KE.GoesEnum
import HandS.DictComp
import KE.KOpsOwn
import HandS.Dict
import KE.KRevSl
import HandS.NoneIn
import HandS.Conv
import HandS.Property
import KE.GoesComp
import KE.GoesRaise
import PyProof.NeKinds
import HandS.GenList
import HandS.GenCall
import KE.SortKeyHeap
import HandS.HotCalls
import PySem.Challenge.RW_keptphrases_k01_errors_apart
set_option Elab.async false
set_option linter.all false
set_option maxRecDepth 100000
set_option maxHeartbeats 4000000
/-! ## The head as a theorem of its own (open_top), its run in parts, each checked by itself; a hook with the tables -/
namespace Kq
open PySem PySem.W PySem.Calls PyProof.Rows HeadRun
def extK (K : Params → Frag) (ts : List Addr) : Params → Frag := fun P => K P ++ ts.map fun a => (a, tabObj #[])
theorem extE {K : Params → Frag} {as : List Addr} (e : ∀ P, as = (K P).map (·.1)) (ts : List Addr) : ∀ P, as ++ ts = (extK K ts P).map (·.1) := fun P => by
  have q : (ts.map fun a => (a, tabObj #[])).map (·.1) = ts := by simp [List.map_map, Function.comp_def]
  show as ++ ts = (K P ++ ts.map fun a => (a, tabObj #[])).map (·.1)
  rw [List.map_append, q, ← e P]
/-- what a run's end shows, looked at in parts -/
theorem run_parts {α β γ : Type} {o : Option SharedT} {f : SharedT → α} {g : SharedT → β} {k : SharedT → List γ} {a : α} {b : β} {c : List γ}
    (h1 : o.map f = some a) (h2 : o.map g = some b) (h3 : o.map k = some c) : o.map (fun s => (f s, g s, k s)) = some (a, b, c) := by
  cases o with
  | none => cases h1
  | some s => exact congrArg some (Prod.ext (Option.some.inj h1) (Prod.ext (Option.some.inj h2) (Option.some.inj h3)))
end Kq
namespace K01
open PySem PySem.W PySem.Calls PyProof.Rows HeadRun
def hdQ : Program := { PySem.Challenge.pw_keptphrases_k01_errors_apart with main := { PySem.Challenge.pw_keptphrases_k01_errors_apart.main with body := PySem.Challenge.pw_keptphrases_k01_errors_apart.main.body.drop 36 } }
def hdL : List PySem.Str := [.ofString "PhraseError", .ofString "BadWord", .ofString "BadPlace", .ofString "BadTruth", .ofString "BadCount", .ofString "BadLimit", .ofString "BadOrder", .ofString "BadGroup", .ofString "BadTree", .ofString "Unlike", .ofString "BadBook", .ofString "BadNode", .ofString "BadList", .ofString "NoWord", .ofString "Taken", .ofString "BadCommand", .ofString "BadText", .ofString "NoName", .ofString "NotPhrase", .ofString "Breaks", .ofString "Clash", .ofString "TooMany", .ofString "NoChange", .ofString "LastOrder", .ofString "_law_pen", .ofString "_law_draw", .ofString "_law_pick", .ofString "_law_value", .ofString "_law_singles", .ofString "_law_doubles", .ofString "_law_single_fields", .ofString "_law_double_fields", .ofString "_law_kinds", .ofString "_law_caught"]
def hdX : Shared → Bool := fun s => xlAt hdQ [] s && recOk (RowW.records (OpenRow.toRowW (OpenLaw.row PySem.Challenge.rw_keptphrases_k01_errors_apart))) s
theorem hd1 (w : World) (os : OsState) : (endF (stepQ (denQ tabQ) PySem.Challenge.pw_keptphrases_k01_errors_apart w) 40100 PySem.Challenge.pw_keptphrases_k01_errors_apart w os).map (fun s => looksF PySem.Challenge.pw_keptphrases_k01_errors_apart (boot_heap w.params) s.abs) = some true := by kernel_rfl
theorem hd2 (w : World) (os : OsState) : (endF (stepQ (denQ tabQ) PySem.Challenge.pw_keptphrases_k01_errors_apart w) 40100 PySem.Challenge.pw_keptphrases_k01_errors_apart w os).map (fun s => seenQ hdQ hdL (importedModules PySem.Challenge.pw_keptphrases_k01_errors_apart.main.body) hdX s.abs) = some (openGood hdQ hdL) := by kernel_rfl
end K01
section
open PySem PySem.W PyProof.Rows
local macro_rules
  | `(tactic| o_head ($_:ident $K:term $as:term $e:term $ts:term)) => `(tactic| o_headL (PySem.W.kHook (Kq.extK $K $ts) ($as ++ $ts) (Kq.extE $e $ts)))
  | `(tactic| o_head $H:term) => `(tactic| o_headL $H)
local macro_rules
  | `(tactic| o_headL $H:term) => `(tactic| (
    refine PySem.W.holds_open (q := K01.hdQ) (loose := K01.hdL) (Xt := K01.hdX) (XP := XL K01.hdQ []) (Yf := Hook.obs $H) (Ya := Hook.val $H) (YP := Hook.says $H) (N := 40800) ?hl (Hook.of $H) (Hook.keeps $H) (fun s e => xl_of s (Bool.and_eq_true_iff.mp e).1) XL.keeps (by rfl) (by rfl) (by rfl) (fun s e => recFacts_of (Bool.and_eq_true_iff.mp e).2) (by rfl) (by first | assumption | decide +kernel) (by decide +kernel) ⟨rfl, rfl, rfl, rfl, rfl, by decide +kernel⟩ ?hw ?hc
    (case hl =>
      refine HeadRun.left_oneK (M := 40100) (by kernel_rfl) (by rfl) (fun s => by kernel_rfl) (by rfl) ?_
      intro w os
      refine Kq.run_parts (K01.hd1 w os) (K01.hd2 w os) ?_
      kernel_rfl)))
set_option maxHeartbeats 0 in
open_top K01.headO for PySem.Challenge.rw_keptphrases_k01_errors_apart
end
namespace Kq
open PySem PySem.Spec PyProof.Rows L2
/-! a def whose promise is asked for only where no guarded built-in is running -/
structure FnG (P : Program) (w : World) (K : PySem.W.Frag) (mg : Str → Option Value) (base : Heap) (CX : CXT) (k : Nat) (f : Addr) (fd : FuncData) (ps : List Str) (sp : Sp) : Prop where
  len : ∀ vs H Q E, sp vs H Q E → vs.length = ps.length
  run : ∀ (A : Around) (outer : List Env) (s : Shared) (H : Hp) (args : Args) (us : List Value) (vs : List V) (Q : VK) (E : XK),
    A.guards = some [] → Room k A → Env0 P w K mg base A outer s H → BindsTo s fd args (ps.zip us) → Vals vs us → sp vs H Q E →
      codeAny (model P w) A (.call (.ref f) args) (CR CX outer P w H s Q E) s
section
variable {P : Program} {w : World} {K : PySem.W.Frag} {mg : Str → Option Value} {base : Heap} {CX : CXT} {k : Nat} {f : Addr} {fd : FuncData} {N ps : List Str} {sp : Sp}
/-- the body's rule, with the knowledge about guards -/
theorem Fun.okG {x qual : Str} {st : Stmt} (F : Fun K x qual st f fd) (S : FnScope N ps (defScope st)) (len : ∀ vs H Q E, sp vs H Q E → vs.length = ps.length)
    (hbody : ∀ (cdv : Value) (A : Around) (outer : List Env) (s : Shared) (H : Hp) (vs : List V) (Q : VK) (E : XK),
      (A.deeper (envOfC qual (defScope st) s.heap.objs.size f cdv)).guards = some [] →
      Room k (A.deeper (envOfC qual (defScope st) s.heap.objs.size f cdv)) → sp vs H Q E →
      ∃ t, PSs (cxOf CX P w K mg base N qual (defScope st) f cdv A outer s H E) (defBody st) t ∧ t { nx := fun _ H' => Q .non H', rt := Q } (start N vs) H) :
    FnG P w K mg base CX (k + 1) f fd ps sp := by
  obtain ⟨oc, od, kV, doc, pm, an, cdv, ct, osl, rfl, lk, hcd⟩ := F.ex
  constructor
  · exact len
  · intro A outer s H args us vs Q E hgd hr e0 hb r hsp
    -- the promise narrowed to this very call
    let sp1 : Sp := fun vs' H' Q' E' => vs' = vs ∧ H' = H ∧ Q' = Q ∧ E' = E
    have hl := len _ _ _ _ hsp
    have KX : K.In s.heap := e0.mod.kin.keeps fun b o e => (e0.bs b o e).1
    have lim : s.heap.NoLimit := e0.mod.nolimit.keeps fun b o e => (e0.bs b o e).1
    refine codeAny_call_function hr.depth (KX _ _ lk) rfl S.co S.gen rfl (PySem.W.codeRec_of KX hcd) (hb _ _ _ _ ?_)
    refine wpAny_newFunctionEnv_cells S.kind ?_ fun env he s1 x => ?_
    · rintro ⟨n, v⟩ hy
      rcases S.par n (List.of_mem_zip hy).1 with q | q
      · exact Or.inl q
      · exact Or.inr ⟨q, PySem.W.cellsFrom_some _ _ _ (.inl q)⟩
    subst he
    refine ⟨lim.keeps x.toInCall.keep, codeAny_func ?_⟩
    obtain ⟨t, ht, hq⟩ := hbody cdv A outer s H vs Q E hgd (hr.deeper _) hsp
    have I := inv_start (CX := CX) (E := E) S hr.hd e0 hl r x
    refine wpAny_mono (ht.run [] s1 (start N vs) H _ I hq) ?_ (fun e s' hs => hs)
    intro fl s' hs
    cases fl with
    | ret u =>
      obtain ⟨v, σ', H', J, rv, q⟩ := hs
      exact ⟨v, H', J.os, J.bare, J.base, J.hok, rv, q⟩
    | next =>
      obtain ⟨σ', H', J, q⟩ := hs
      exact ⟨V.non, H', J.os, J.bare, J.base, J.hok, rfl, q⟩
    | brk => obtain ⟨_, _, _, q⟩ := hs; exact q.elim
    | cont => obtain ⟨_, _, _, q⟩ := hs; exact q.elim
end
/-! what a global name promises -/
end Kq
namespace Kq
open PySem PySem.Spec PyProof.Rows L2
/-! ## plain data in the abstract heap. T: the only dict that may stand in it -/
abbrev Tb := List (Key × V)
def kD : Key → PyData
  | .inl i => .int i
  | .inr x => .str x
def vD : V → PyData
  | .bl b => .bool b
  | .int i => .int i
  | .str x => .str x
  | _ => .none
def tD (T : Tb) : PyData := .dict (T.map fun q => (kD q.1, vD q.2))
mutual
inductive Dq (T : Tb) (H : Hp) : V → PyData → Prop
  | non : Dq T H .non .none
  | bl (b : Bool) : Dq T H (.bl b) (.bool b)
  | int (i : Int) : Dq T H (.int i) (.int i)
  | str (x : Str) : Dq T H (.str x) (.str x)
  | lst {a : Addr} {xs : List V} {ds : List PyData} : H a = some (.lst xs) → Dqs T H xs ds → Dq T H (.ref a) (.list ds)
  | tup {a : Addr} {xs : List V} {ds : List PyData} : H a = some (.tup xs) → Dqs T H xs ds → Dq T H (.ref a) (.tuple ds)
  | dct {a : Addr} : H a = some (.dK T) → Dq T H (.ref a) (tD T)
inductive Dqs (T : Tb) (H : Hp) : List V → List PyData → Prop
  | nil : Dqs T H [] []
  | cons {v : V} {vs : List V} {d : PyData} {ds : List PyData} : Dq T H v d → Dqs T H vs ds → Dqs T H (v :: vs) (d :: ds)
end
mutual
theorem Dq.mono {T : Tb} {H H' : Hp} (h : Same H H') : ∀ {v : V} {d : PyData}, Dq T H v d → Dq T H' v d
  | _, _, .non => .non
  | _, _, .bl b => .bl b
  | _, _, .int i => .int i
  | _, _, .str x => .str x
  | _, _, .lst e q => .lst (h _ _ e) (Dqs.mono h q)
  | _, _, .tup e q => .tup (h _ _ e) (Dqs.mono h q)
  | _, _, .dct e => .dct (h _ _ e)
theorem Dqs.mono {T : Tb} {H H' : Hp} (h : Same H H') : ∀ {v : List V} {d : List PyData}, Dqs T H v d → Dqs T H' v d
  | _, _, .nil => .nil
  | _, _, .cons a b => .cons (Dq.mono h a) (Dqs.mono h b)
end
theorem Dqs.length {T : Tb} {H : Hp} : ∀ {vs : List V} {ds : List PyData}, Dqs T H vs ds → vs.length = ds.length
  | _, _, .nil => rfl
  | _, _, .cons _ b => congrArg Nat.succ (Dqs.length b)
theorem Dqs.get {T : Tb} {H : Hp} : ∀ {vs : List V} {ds : List PyData} {i : Nat} {v : V}, Dqs T H vs ds → vs[i]? = some v → ∃ d, ds[i]? = some d ∧ Dq T H v d
  | _, _, _, _, .nil, e => by simp at e
  | _, _, 0, _, .cons a _, e => by simp at e; subst e; exact ⟨_, rfl, a⟩
  | _, _, i + 1, v, .cons _ b, e => by
    obtain ⟨d, h1, h2⟩ := Dqs.get (i := i) b (by simpa using e)
    exact ⟨d, by simpa using h1, h2⟩
theorem Dqs.app {T : Tb} {H : Hp} : ∀ {vs ws : List V} {ds es : List PyData}, Dqs T H vs ds → Dqs T H ws es → Dqs T H (vs ++ ws) (ds ++ es)
  | _, _, _, _, .nil, h => h
  | _, _, _, _, .cons a b, h => .cons a (Dqs.app b h)
theorem Dqs.take {T : Tb} {H : Hp} : ∀ {vs : List V} {ds : List PyData} (n : Nat), Dqs T H vs ds → Dqs T H (vs.take n) (ds.take n)
  | _, _, 0, _ => .nil
  | _, _, _ + 1, .nil => .nil
  | _, _, n + 1, .cons a b => .cons a (Dqs.take n b)
theorem Dqs.drop {T : Tb} {H : Hp} : ∀ {vs : List V} {ds : List PyData} (n : Nat), Dqs T H vs ds → Dqs T H (vs.drop n) (ds.drop n)
  | _, _, 0, h => h
  | _, _, _ + 1, .nil => .nil
  | _, _, n + 1, .cons _ b => Dqs.drop n b
/-- the dicts of a table are flat -/
def flat1 : V → Bool
  | .byt _ => false
  | .flt _ => false
  | .ref _ => false
  | .ty _ => false
  | _ => true
def flatT (T : Tb) : Bool := T.all fun q => flat1 q.2
/-! ### it is read -/
section
variable {T : Tb} {X : Cx} {pins : List (Addr × Obj)} {σ : L2.St} {H : Hp} {s : Shared}
/-- no dict of the model's own is tracked -/
def NoSys (X : Cx) : Prop := ∃ o, X.base.get? sysModules = some o
theorem NoSys.ne (h1 : NoSys X) (I : Inv X pins σ H s) {a : Addr} {o : HO} (e : H a = some o) : a ≠ sysModules := by
  rintro rfl
  obtain ⟨ob, ho⟩ := h1
  have := (I.bs _ _ ho).2
  rw [e] at this
  cases this
theorem keys_read {P : Program} {w : World} {h : Heap} : ∀ {es : List DictEntry} {kvs : List (Key × Value)}, Pairs (mixKind P w) es kvs → ReadsAll h (es.map (·.key)) (kvs.map fun q => kD q.1) []
  | _, _, .nil => .nil
  | _, _, .cons (kv := (k, v)) a _ r => by
    have q := keys_read (h := h) r
    rcases keyIs_shape a with ⟨i, t, e1, e2⟩ | ⟨x, t, e1, e2⟩
    · have e1' : k = .inl i := e1
      subst e1'
      simp only [List.map_cons, e2]
      exact ReadsAll.cons (as := []) (Reads.int i t) q
    · have e1' : k = .inr x := e1
      subst e1'
      simp only [List.map_cons, e2]
      exact ReadsAll.cons (as := []) (Reads.str x t) q
theorem vals_read {P : Program} {w : World} {h : Heap} : ∀ {es : List DictEntry} {kvs : List (Key × Value)} {T : Tb}, Pairs (mixKind P w) es kvs → KV T kvs → flatT T = true → ReadsAll h (es.map (·.val)) (T.map fun q => vD q.2) []
  | _, _, _, .nil, r, _ => by cases r; exact .nil
  | _, _, _, .cons (kv := (k, v)) _ e r, rk, ft => by
    cases rk with
    | cons h1 h2 =>
      rename_i p T'
      obtain ⟨k', x⟩ := p
      have ft' : flat1 x = true ∧ flatT T' = true := by
        unfold flatT at ft
        rw [List.all_cons, Bool.and_eq_true] at ft
        exact ft
      have q := vals_read (h := h) r h2 ft'.2
      have e' : (_ : DictEntry).val = v := e
      have rv : RelV x v := h1.2
      simp only [List.map_cons, e']
      cases x with
      | non => cases rv; exact ReadsAll.cons (as := []) Reads.none q
      | bl b => cases rv; exact ReadsAll.cons (as := []) (Reads.bool b) q
      | int i => obtain ⟨t, rfl⟩ := rv; exact ReadsAll.cons (as := []) (Reads.int i t) q
      | str y => obtain ⟨t, rfl⟩ := rv; exact ReadsAll.cons (as := []) (Reads.str y t) q
      | byt b => exact absurd (show false = true from ft'.1) Bool.false_ne_true
      | flt b => exact absurd (show false = true from ft'.1) Bool.false_ne_true
      | ref b => exact absurd (show false = true from ft'.1) Bool.false_ne_true
      | ty b => exact absurd (show false = true from ft'.1) Bool.false_ne_true
theorem keys_same {T : Tb} {vs : List (Key × Value)} (r : KV T vs) : T.map (·.1) = vs.map (·.1) := by
  induction r with
  | nil => rfl
  | cons h _ ih => rw [List.map_cons, List.map_cons, ih, h.1]
mutual
theorem Dq.reads (h1 : NoSys X) (I : Inv X pins σ H s) (hT : flatT T = true) : ∀ {v : V} {d : PyData} (u : Value), Dq T H v d → RelV v u → ∃ as, Reads s.heap u d as ∧ sysModules ∉ as
  | _, _, _, .non, r => by cases r; exact ⟨_, Reads.none, by simp⟩
  | _, _, _, .bl b, r => by cases r; exact ⟨_, Reads.bool b, by simp⟩
  | _, _, _, .int i, r => by obtain ⟨t, rfl⟩ := r; exact ⟨_, Reads.int i t, by simp⟩
  | _, _, _, .str x, r => by obtain ⟨t, rfl⟩ := r; exact ⟨_, Reads.str x t, by simp⟩
  | _, _, _, .lst (a := a) (xs := xs) e q, r => by
    cases r
    obtain ⟨z, its, n, rv, hget⟩ : ObjOk X.prog X.w H s.heap a (.lst xs) := I.hok _ _ e
    obtain ⟨as, hr, hn⟩ := Dqs.reads h1 I hT its q rv
    exact ⟨a :: as, Reads.list hget rfl rfl hr, by
      intro hm
      rcases List.mem_cons.mp hm with z | z
      · exact h1.ne I e z.symm
      · exact hn z⟩
  | _, _, _, .tup (a := a) (xs := xs) e q, r => by
    cases r
    obtain ⟨z, its, rv, o, ho, hc, n, hd⟩ : ObjOk X.prog X.w H s.heap a (.tup xs) := I.hok _ _ e
    obtain ⟨as, hr, hn⟩ := Dqs.reads h1 I hT its q rv
    exact ⟨as, Reads.tuple ho hc hd hr, hn⟩
  | _, _, _, .dct (a := a) e, r => by
    cases r
    obtain ⟨z, hy, vs, rv, o, es, ep, ho, hx, hd, hk, hp, nd⟩ : ObjOk X.prog X.w H s.heap a (.dK T) := I.hok _ _ e
    have k1 := keys_read (h := s.heap) hp
    have k2 := vals_read (h := s.heap) hp rv hT
    have e1 : (vs.map fun q => kD q.1) = T.map fun q => kD q.1 := by
      have := congrArg (List.map kD) (keys_same rv)
      rw [List.map_map, List.map_map] at this
      exact this.symm
    rw [e1] at k1
    have k1' : ReadsAll s.heap (es.toList.map (·.key)) ((T.map fun q => (kD q.1, vD q.2)).map (·.1)) [] := by rw [List.map_map]; exact k1
    have k2' : ReadsAll s.heap (es.toList.map (·.val)) ((T.map fun q => (kD q.1, vD q.2)).map (·.2)) [] := by rw [List.map_map]; exact k2
    refine ⟨a :: ([] ++ []), Reads.dict ho hx.1 hd k1' k2', ?_⟩
    · intro hm
      rcases List.mem_cons.mp hm with z | z
      · exact h1.ne I e z.symm
      · simp at z
theorem Dqs.reads (h1 : NoSys X) (I : Inv X pins σ H s) (hT : flatT T = true) : ∀ {vs : List V} {ds : List PyData} (us : List Value), Dqs T H vs ds → Vals vs us → ∃ as, ReadsAll s.heap us ds as ∧ sysModules ∉ as
  | _, _, _, .nil, r => by cases r; exact ⟨_, ReadsAll.nil, by simp⟩
  | _, _, _, .cons a b, r => by
    cases r with
    | cons r1 r2 =>
      obtain ⟨as, q1, n1⟩ := Dq.reads h1 I hT _ a r1
      obtain ⟨bs, q2, n2⟩ := Dqs.reads h1 I hT _ b r2
      exact ⟨as ++ bs, ReadsAll.cons q1 q2, fun hm => (List.mem_append.mp hm).elim n1 n2⟩
end
end
/-! ### repr -/
def rRepr (T : Tb) : List V → Hp → VK → Prop := fun xs H Q => ∃ x a d, xs = [x] ∧ x = .ref a ∧ Dq T H x d ∧ d.showable = true ∧ d.depth ≤ 30 ∧ d.shown.length ≤ sizeLine ∧ Q (.str d.shown) H
theorem call_repr {T : Tb} {X : Cx} (h1 : NoSys X) (hT : flatT T = true) (hgd : X.A.guards = some []) (hu : X.A.units + 64 < cLine) : CallR X (.builtin "repr") (rRepr T) := by
  intro pins s σ H xs us Q I r h
  obtain ⟨x, a, d, rfl, rfl, hd, hs, hp, hz, q⟩ := h
  cases r with
  | cons rx rr =>
    cases rr
    cases rx
    obtain ⟨as, hr, hn⟩ := Dq.reads h1 I hT _ hd rfl
    refine repr_of_reads' hr hs (fun _ => hn) hgd (by omega) (fun _ _ e => e) (fun h' u tk hk => ?_) hz
    exact ⟨.str d.shown, H, I.kept hk, ⟨u, rfl⟩, q⟩
end Kq
namespace Kq
open PySem PySem.Spec PyProof.Rows L2
open PySem.SeqAt PySem.MeetsSeq
open PySem.AutoSeq1 (wpAny_loadPart')
/-! ## == of plain data -/
abbrev dictO (es : Array DictEntry) (ep : Nat) : Obj := { cls := .type "dict", dict := none, data := .dict es ep, slots := #[] }
theorem exact_eq {o : Obj} {es : Array DictEntry} {ep : Nat} (h : o.ExactDict) (hd : o.data = .dict es ep) : o = dictO es ep := by
  obtain ⟨c, d, dt, sl⟩ := o
  obtain ⟨h1, h2, h3⟩ := h
  simp only at h1 h2 h3 hd
  subst h1 h2 h3 hd
  rfl
theorem int_declines_dict (b : Int) (u : Tok) (l : Addr) (es : Array DictEntry) (ep : Nat) :
    Meets (Builtin.«int.__eq__» ⟨[.int b u, .ref l], []⟩) (fun _ R s => s.heap.get? l = some (dictO es ep) ∧ R (.ok (.ret .notImplemented)) s) :=
  .of_wp fun prog w A R s h => by
    obtain ⟨hp, g, d, tk, os⟩ := s; obtain ⟨hl, h⟩ := h
    unfold dictO at hl
    wp_walk using wpAny_loadPart' hl, wpAny_load hl
    exact ⟨_, rfl, h⟩
theorem bool_declines_dict (b : Bool) (l : Addr) (es : Array DictEntry) (ep : Nat) :
    Meets (Builtin.«int.__eq__» ⟨[.bool b, .ref l], []⟩) (fun _ R s => s.heap.get? l = some (dictO es ep) ∧ R (.ok (.ret .notImplemented)) s) :=
  .of_wp fun prog w A R s h => by
    obtain ⟨hp, g, d, tk, os⟩ := s; obtain ⟨hl, h⟩ := h
    unfold dictO at hl
    wp_walk using wpAny_loadPart' hl, wpAny_load hl
    exact ⟨_, rfl, h⟩
theorem str_declines_dict (b : Str) (u : Tok) (l : Addr) (es : Array DictEntry) (ep : Nat) :
    Meets (Builtin.«str.__eq__» ⟨[.str b u, .ref l], []⟩) (fun _ R s => s.heap.get? l = some (dictO es ep) ∧ R (.ok (.ret .notImplemented)) s) :=
  .of_wp fun prog w A R s h => by
    obtain ⟨hp, g, d, tk, os⟩ := s; obtain ⟨hl, h⟩ := h
    unfold dictO at hl
    wp_walk using wpAny_loadPart' hl, wpAny_load hl
    exact ⟨_, rfl, h⟩
theorem list_declines_dict (l b : Addr) (items : Array Value) (n : Nat) (dd : Option Addr) (sl : Array (Option Value)) (es : Array DictEntry) (ep : Nat) :
    Meets (Builtin.«list.__eq__» ⟨[.ref l, .ref b], []⟩) (fun _ R s => s.heap.get? l = some { cls := .type "list", dict := dd, data := .seq items n, slots := sl } ∧ s.heap.get? b = some (dictO es ep) ∧ R (.ok (.ret .notImplemented)) s) :=
  .of_wp fun prog w A R s h => by
    obtain ⟨hp, g, d, tk, os⟩ := s; obtain ⟨hl, hb, h⟩ := h
    unfold dictO at hb
    have f1 := F.sub_dict_list
    wp_walk using wpAny_loadPart' hl, wpAny_loadPart' hb
    exact ⟨_, rfl, h⟩
theorem tuple_declines_dict (l b : Addr) (items : Array Value) (n : Nat) (dd : Option Addr) (sl : Array (Option Value)) (es : Array DictEntry) (ep : Nat) :
    Meets (Builtin.«tuple.__eq__» ⟨[.ref l, .ref b], []⟩) (fun _ R s => s.heap.get? l = some { cls := .type "tuple", dict := dd, data := .seq items n, slots := sl } ∧ s.heap.get? b = some (dictO es ep) ∧ R (.ok (.ret .notImplemented)) s) :=
  .of_wp fun prog w A R s h => by
    obtain ⟨hp, g, d, tk, os⟩ := s; obtain ⟨hl, hb, h⟩ := h
    unfold dictO at hb
    have f1 := F.sub_dict_tuple
    wp_walk using wpAny_loadPart' hl, wpAny_loadPart' hb
    exact ⟨_, rfl, h⟩
section
variable {prog : Program} {w : World} {A : Around} {E : Value → Shared → Prop} {s : Shared} {Q : Value → Shared → Prop} {a l : Addr} {es : Array DictEntry} {ep : Nat}
theorem dict_declines {x : Value} {Ty : String} (ha : s.heap.get? a = some (dictO es ep)) (hx : s.TypeIs x Ty) (hsub : isSubtype (.type Ty) (.type "dict") = pure false) (h : Q .notImplemented s) :
    wpAny (model prog w) A (call (.builtin "dict.__eq__") [.ref a, x]) Q E s := by
  have ht : s.TypeIs (.ref a) "dict" := ⟨_, ha, rfl⟩
  refine wpAny_call_entry PySem.F.slot_dict_eq ht PySem.F.entry_dict_eq ?_ (PySem.F.args_dict_eq_2 _ _)
  show wpAny _ _ (Builtin.Dict.dictSlotArgs "__eq__" ⟨[.ref a, x], []⟩ >>= _) _ _ s
  refine wpAny_bind ?_
  unfold Builtin.Dict.dictSlotArgs
  refine wpAny_bind (wpAny_notOrdered_dict ht ?_)
  show wpAny _ _ (pure (Value.ref a, x)) _ _ s
  refine wpAny_pure ?_
  refine wpAny_bind (wpAny_isInstance (T := Ty) hx hsub ?_)
  simp only [Bool.not_false, if_true]
  exact wpAny_bind (wpAny_rule (wpAny_pure ⟨_, rfl, h⟩))
theorem rc_dict_none (ha : s.heap.get? a = some (dictO es ep)) (hu : A.units < cLine) (h : Q (.bool false) s) : wpAny (model prog w) A (richCompare .Eq (.ref a) .none) Q E s :=
  rc_eq_decline_or (k := false) ⟨_, ha, rfl⟩ rfl (by decide) F.sub_NoneType_dict F.slot_dict_eq F.slot_NoneType_eq_refl
    (fun _ hq => dict_declines ha rfl F.sub_NoneType_dict hq)
    (fun _ hq => call_gives F.slot_NoneType_eq_refl rfl F.entry_NoneType_eq (F.args_NoneType_eq_2 _ _) (NoneType___eq___none_ref_0 a) hq)
    (fun _ hq => wpAny_of_eq (rfl : isSame (.ref a) .none = pure false) hq) (.inr hu) h
theorem rc_none_dict (ha : s.heap.get? a = some (dictO es ep)) (hu : A.units < cLine) (h : Q (.bool false) s) : wpAny (model prog w) A (richCompare .Eq .none (.ref a)) Q E s :=
  rc_eq_decline_or (k := false) rfl ⟨_, ha, rfl⟩ (by decide) F.sub_dict_NoneType F.slot_NoneType_eq F.slot_dict_eq
    (fun _ hq => call_gives F.slot_NoneType_eq rfl F.entry_NoneType_eq (F.args_NoneType_eq_2 _ _) (NoneType___eq___none_ref_0 a) hq)
    (fun _ hq => dict_declines ha rfl F.sub_NoneType_dict hq)
    (fun _ hq => wpAny_of_eq (rfl : isSame .none (.ref a) = pure false) hq) (.inr hu) h
theorem rc_dict_bool (b : Bool) (ha : s.heap.get? a = some (dictO es ep)) (hu : A.units < cLine) (h : Q (.bool false) s) : wpAny (model prog w) A (richCompare .Eq (.ref a) (.bool b)) Q E s :=
  rc_eq_decline_or (k := false) ⟨_, ha, rfl⟩ rfl (by decide) F.sub_bool_dict F.slot_dict_eq F.slot_bool_eq_refl
    (fun _ hq => dict_declines ha rfl F.sub_bool_dict hq)
    (fun _ hq => call_meets F.slot_bool_eq_refl rfl F.entry_int_eq (F.args_int_eq_2 _ _) (bool_declines_dict b a es ep) ⟨ha, hq⟩)
    (fun _ hq => wpAny_of_eq (rfl : isSame (.ref a) (.bool b) = pure false) hq) (.inr hu) h
theorem rc_bool_dict (b : Bool) (ha : s.heap.get? a = some (dictO es ep)) (hu : A.units < cLine) (h : Q (.bool false) s) : wpAny (model prog w) A (richCompare .Eq (.bool b) (.ref a)) Q E s :=
  rc_eq_decline_or (k := false) rfl ⟨_, ha, rfl⟩ (by decide) F.sub_dict_bool F.slot_bool_eq F.slot_dict_eq
    (fun _ hq => call_meets F.slot_bool_eq rfl F.entry_int_eq (F.args_int_eq_2 _ _) (bool_declines_dict b a es ep) ⟨ha, hq⟩)
    (fun _ hq => dict_declines ha rfl F.sub_bool_dict hq)
    (fun _ hq => wpAny_of_eq (rfl : isSame (.bool b) (.ref a) = pure false) hq) (.inr hu) h
theorem rc_dict_int (b : Int) (u : Tok) (ha : s.heap.get? a = some (dictO es ep)) (hu : A.units < cLine) (h : Q (.bool false) s) : wpAny (model prog w) A (richCompare .Eq (.ref a) (.int b u)) Q E s :=
  rc_eq_decline_or (k := false) ⟨_, ha, rfl⟩ (typeIs_int _ _ _) (by decide) F.sub_int_dict F.slot_dict_eq F.slot_int_eq_refl
    (fun _ hq => dict_declines ha (typeIs_int _ _ _) F.sub_int_dict hq)
    (fun _ hq => call_meets F.slot_int_eq_refl (typeIs_int _ _ _) F.entry_int_eq (F.args_int_eq_2 _ _) (int_declines_dict b u a es ep) ⟨ha, hq⟩)
    (fun _ hq => wpAny_of_eq (rfl : isSame (.ref a) (.int b u) = pure false) hq) (.inr hu) h
theorem rc_int_dict (b : Int) (u : Tok) (ha : s.heap.get? a = some (dictO es ep)) (hu : A.units < cLine) (h : Q (.bool false) s) : wpAny (model prog w) A (richCompare .Eq (.int b u) (.ref a)) Q E s :=
  rc_eq_decline_or (k := false) (typeIs_int _ _ _) ⟨_, ha, rfl⟩ (by decide) F.sub_dict_int F.slot_int_eq F.slot_dict_eq
    (fun _ hq => call_meets F.slot_int_eq (typeIs_int _ _ _) F.entry_int_eq (F.args_int_eq_2 _ _) (int_declines_dict b u a es ep) ⟨ha, hq⟩)
    (fun _ hq => dict_declines ha (typeIs_int _ _ _) F.sub_int_dict hq)
    (fun _ hq => wpAny_of_eq (rfl : isSame (.int b u) (.ref a) = pure false) hq) (.inr hu) h
theorem rc_dict_str (b : Str) (u : Tok) (ha : s.heap.get? a = some (dictO es ep)) (hu : A.units < cLine) (h : Q (.bool false) s) : wpAny (model prog w) A (richCompare .Eq (.ref a) (.str b u)) Q E s :=
  rc_eq_decline_or (k := false) ⟨_, ha, rfl⟩ (typeIs_str _ _ _) (by decide) F.sub_str_dict F.slot_dict_eq F.slot_str_eq_refl
    (fun _ hq => dict_declines ha (typeIs_str _ _ _) F.sub_str_dict hq)
    (fun _ hq => call_meets F.slot_str_eq_refl (typeIs_str _ _ _) F.entry_str_eq (F.args_str_eq_2 _ _) (str_declines_dict b u a es ep) ⟨ha, hq⟩)
    (fun _ hq => wpAny_of_eq (rfl : isSame (.ref a) (.str b u) = pure false) hq) (.inr hu) h
theorem rc_str_dict (b : Str) (u : Tok) (ha : s.heap.get? a = some (dictO es ep)) (hu : A.units < cLine) (h : Q (.bool false) s) : wpAny (model prog w) A (richCompare .Eq (.str b u) (.ref a)) Q E s :=
  rc_eq_decline_or (k := false) (typeIs_str _ _ _) ⟨_, ha, rfl⟩ (by decide) F.sub_dict_str F.slot_str_eq F.slot_dict_eq
    (fun _ hq => call_meets F.slot_str_eq (typeIs_str _ _ _) F.entry_str_eq (F.args_str_eq_2 _ _) (str_declines_dict b u a es ep) ⟨ha, hq⟩)
    (fun _ hq => dict_declines ha (typeIs_str _ _ _) F.sub_str_dict hq)
    (fun _ hq => wpAny_of_eq (rfl : isSame (.str b u) (.ref a) = pure false) hq) (.inr hu) h
theorem ne_cls {x y : Addr} {ox oy : Obj} (hx : s.heap.get? x = some ox) (hy : s.heap.get? y = some oy) (hc : ox.cls ≠ oy.cls) : x ≠ y := by
  rintro rfl
  rw [hx] at hy
  cases hy
  exact hc rfl
theorem rc_dict_list {items : Array Value} (ha : s.heap.get? a = some (dictO es ep)) (hl : s.heap.IsList l items) (hu : A.units < cLine) (h : Q (.bool false) s) : wpAny (model prog w) A (richCompare .Eq (.ref a) (.ref l)) Q E s := by
  obtain ⟨⟨cls, dd, data, sl⟩, ho, hc, n, hd⟩ := id hl
  simp only at hc hd
  subst hc hd
  exact rc_eq_decline_or (k := false) ⟨_, ha, rfl⟩ ⟨_, ho, rfl⟩ (by decide) F.sub_list_dict F.slot_dict_eq F.slot_list_eq_refl
    (fun _ hq => dict_declines ha ⟨_, ho, rfl⟩ F.sub_list_dict hq)
    (fun _ hq => call_meets F.slot_list_eq_refl ⟨_, ho, rfl⟩ F.entry_list_eq (F.args_list_eq_2 _ _) (list_declines_dict l a items n dd sl es ep) ⟨ho, ha, hq⟩)
    (fun _ hq => wpAny_isSame_ref_other' (ne_cls ha ho (by show Value.type _ ≠ Value.type _; decide)) ha ho (by show Value.type _ ≠ Value.type _; decide) hq) (.inr hu) h
theorem rc_list_dict {items : Array Value} (ha : s.heap.get? a = some (dictO es ep)) (hl : s.heap.IsList l items) (hu : A.units < cLine) (h : Q (.bool false) s) : wpAny (model prog w) A (richCompare .Eq (.ref l) (.ref a)) Q E s := by
  obtain ⟨⟨cls, dd, data, sl⟩, ho, hc, n, hd⟩ := id hl
  simp only at hc hd
  subst hc hd
  exact rc_eq_decline_or (k := false) ⟨_, ho, rfl⟩ ⟨_, ha, rfl⟩ (by decide) F.sub_dict_list F.slot_list_eq F.slot_dict_eq
    (fun _ hq => call_meets F.slot_list_eq ⟨_, ho, rfl⟩ F.entry_list_eq (F.args_list_eq_2 _ _) (list_declines_dict l a items n dd sl es ep) ⟨ho, ha, hq⟩)
    (fun _ hq => dict_declines ha ⟨_, ho, rfl⟩ F.sub_list_dict hq)
    (fun _ hq => wpAny_isSame_ref_other' (ne_cls ho ha (by show Value.type _ ≠ Value.type _; decide)) ho ha (by show Value.type _ ≠ Value.type _; decide) hq) (.inr hu) h
theorem rc_dict_tuple {items : Array Value} (ha : s.heap.get? a = some (dictO es ep)) (hl : s.heap.IsTuple l items) (hu : A.units < cLine) (h : Q (.bool false) s) : wpAny (model prog w) A (richCompare .Eq (.ref a) (.ref l)) Q E s := by
  obtain ⟨⟨cls, dd, data, sl⟩, ho, hc, n, hd⟩ := id hl
  simp only at hc hd
  subst hc hd
  have hne : a ≠ l := ne_cls ha ho (by show Value.type _ ≠ Value.type _; decide)
  refine rc_eq_decline_or (k := false) ⟨_, ha, rfl⟩ ⟨_, ho, rfl⟩ (by decide) F.sub_tuple_dict F.slot_dict_eq F.slot_tuple_eq_refl
    (fun _ hq => dict_declines ha ⟨_, ho, rfl⟩ F.sub_tuple_dict hq)
    (fun _ hq => call_meets F.slot_tuple_eq_refl ⟨_, ho, rfl⟩ F.entry_tuple_eq (F.args_tuple_eq_2 _ _) (tuple_declines_dict l a items n dd sl es ep) ⟨ho, ha, hq⟩)
    (fun Q' hq => ?_) (.inr hu) h
  show wpAny (model prog w) A (if (a == l) = true then pure true else _) Q' E s
  rw [if_neg (by simpa using hne)]
  refine wpAny_bind (wpAny_load ha (wpAny_bind (wpAny_load ho ?_)))
  exact wpAny_pure hq
theorem rc_tuple_dict {items : Array Value} (ha : s.heap.get? a = some (dictO es ep)) (hl : s.heap.IsTuple l items) (hu : A.units < cLine) (h : Q (.bool false) s) : wpAny (model prog w) A (richCompare .Eq (.ref l) (.ref a)) Q E s := by
  obtain ⟨⟨cls, dd, data, sl⟩, ho, hc, n, hd⟩ := id hl
  simp only at hc hd
  subst hc hd
  exact rc_eq_decline_or (k := false) ⟨_, ho, rfl⟩ ⟨_, ha, rfl⟩ (by decide) F.sub_dict_tuple F.slot_tuple_eq F.slot_dict_eq
    (fun _ hq => call_meets F.slot_tuple_eq ⟨_, ho, rfl⟩ F.entry_tuple_eq (F.args_tuple_eq_2 _ _) (tuple_declines_dict l a items n dd sl es ep) ⟨ho, ha, hq⟩)
    (fun _ hq => dict_declines ha ⟨_, ho, rfl⟩ F.sub_tuple_dict hq)
    (fun _ hq => wpAny_isSame_ref_other' (ne_cls ho ha (by show Value.type _ ≠ Value.type _; decide)) ho ha (by show Value.type _ ≠ Value.type _; decide) hq) (.inr hu) h
end
end Kq
namespace Kq
open PySem PySem.Spec PyProof.Rows L2
open PySem.SeqAt PySem.MeetsSeq
mutual
def nrm : PyData → PyData
  | .none => .none
  | .bool b => .int (if b then 1 else 0)
  | .int i => .int i
  | .str x => .str x
  | .list xs => .list (nrms xs)
  | .tuple xs => .tuple (nrms xs)
  | .dict kvs => .dict kvs
def nrms : List PyData → List PyData
  | [] => []
  | x :: xs => nrm x :: nrms xs
end
theorem nrms_map : ∀ xs, nrms xs = xs.map nrm
  | [] => by simp only [nrms, List.map_nil]
  | x :: xs => by simp only [nrms, List.map_cons, nrms_map xs]
mutual
theorem Dq.fn {T : Tb} {H : Hp} : ∀ {v : V} {d e : PyData}, Dq T H v d → Dq T H v e → d = e
  | _, _, _, .non, h => by cases h; rfl
  | _, _, _, .bl b, h => by cases h; rfl
  | _, _, _, .int i, h => by cases h; rfl
  | _, _, _, .str x, h => by cases h; rfl
  | _, _, _, .lst e q, h => by
    cases h with
    | lst e' q' => rw [e] at e'; cases e'; rw [Dqs.fn q q']
    | tup e' q' => rw [e] at e'; cases e'
    | dct e' => rw [e] at e'; cases e'
  | _, _, _, .tup e q, h => by
    cases h with
    | tup e' q' => rw [e] at e'; cases e'; rw [Dqs.fn q q']
    | lst e' q' => rw [e] at e'; cases e'
    | dct e' => rw [e] at e'; cases e'
  | _, _, _, .dct e, h => by
    cases h with
    | dct e' => rfl
    | lst e' q' => rw [e] at e'; cases e'
    | tup e' q' => rw [e] at e'; cases e'
theorem Dqs.fn {T : Tb} {H : Hp} : ∀ {v : List V} {d e : List PyData}, Dqs T H v d → Dqs T H v e → d = e
  | _, _, _, .nil, h => by cases h; rfl
  | _, _, _, .cons a b, h => by
    cases h with
    | cons a' b' => rw [Dq.fn a a', Dqs.fn b b']
end
section
variable {T : Tb} {X : Cx} {pins : List (Addr × Obj)} {σ : L2.St} {H : Hp} {s : Shared}
def RcW (P : Program) (w : World) (A : Around) (s : Shared) (u v : Value) (b : Bool) : Prop :=
  ∀ (E Q : Value → Shared → Prop), Q (.bool b) s → wpAny (model P w) A (richCompare .Eq u v) Q E s
def notFl : Value → Bool
  | .float _ _ => false
  | _ => true
theorem eqIn_rc {P : Program} {w : World} {A : Around} {u v : Value} {b : Bool} (h : RcW P w A s u v b) (hs : u = v → b = true) (hf : notFl u = true) : EqIn P w A s u v b := by
  intro E Q hq
  by_cases hab : u = v
  · subst hab
    have := hs rfl
    subst this
    exact (EqAt.same _).inModel P w E Q hq
  · unfold eqBool
    refine wpAny_holding ?_
    refine wpAny_ite_split (fun z => absurd (eq_of_beq z) hab) (fun _ => ?_)
    cases u with
    | float x t => exact absurd (show false = true from hf) Bool.false_ne_true
    | _ => exact wpAny_bind (h E _ (wpAny_truthy_bool hq))
theorem dict_at (I : Inv X pins σ H s) {a : Addr} (e : H a = some (.dK T)) : ∃ es ep, s.heap.get? a = some (dictO es ep) := by
  obtain ⟨z, hy, vs, rv, o, es, ep, ho, hx, hd, _⟩ : ObjOk X.prog X.w H s.heap a (.dK T) := I.hok _ _ e
  exact ⟨es, ep, by rw [ho, exact_eq hx hd]⟩
theorem list_at (I : Inv X pins σ H s) {a : Addr} {xs : List V} (e : H a = some (.lst xs)) : ∃ its, Vals xs its ∧ s.heap.IsList a its.toArray := by
  obtain ⟨z, its, n, rv, hget⟩ : ObjOk X.prog X.w H s.heap a (.lst xs) := I.hok _ _ e
  exact ⟨its, rv, _, hget, rfl, n, rfl⟩
theorem tuple_at (I : Inv X pins σ H s) {a : Addr} {xs : List V} (e : H a = some (.tup xs)) : ∃ its, Vals xs its ∧ s.heap.IsTuple a its.toArray := by
  obtain ⟨z, its, rv, ht⟩ : ObjOk X.prog X.w H s.heap a (.tup xs) := I.hok _ _ e
  exact ⟨its, rv, ht⟩
/-- two dicts of the table -/
theorem rc_dict_dict (I : Inv X pins σ H s) (hT : flatT T = true) {a b : Addr} (ea : H a = some (.dK T)) (eb : H b = some (.dK T)) {A : Around} (hu : A.units < cLine) : RcW X.prog X.w A s (.ref a) (.ref b) true := by
  intro E Q hq
  obtain ⟨za, ya, va, ra, da⟩ : ObjOk X.prog X.w H s.heap a (.dK T) := I.hok _ _ ea
  obtain ⟨zb, yb, vb, rb, db⟩ : ObjOk X.prog X.w H s.heap b (.dK T) := I.hok _ _ eb
  have nd : (va.map (·.1)).Nodup := by obtain ⟨_, _, _, _, _, _, _, _, nd⟩ := da; exact nd
  have ndb : (vb.map (·.1)).Nodup := by obtain ⟨_, _, _, _, _, _, _, _, nd⟩ := db; exact nd
  have key : ∀ (k : Key) (v y : Value), (k, v) ∈ va → valueAt vb k = some y → EqIn X.prog X.w A.in1 s v y true := by
    intro k v y hm hv
    -- both are the table's value at k
    have lem : ∀ {T' : Tb} {l1 l2 : List (Key × Value)}, KV T' l1 → KV T' l2 → flatT T' = true → (l1.map (·.1)).Nodup → (k, v) ∈ l1 → valueAt l2 k = some y → ∃ x, RelV x v ∧ RelV x y ∧ flat1 x = true := by
      intro T' l1 l2 r1
      induction r1 generalizing l2 with
      | nil => intro _ _ _ hm; cases hm
      | cons h1 t1 ih =>
        intro r2 hf hn hm hv
        rename_i p q ps qs
        cases r2 with
        | cons h2 t2 =>
          rename_i q2 qs2
          rw [flatT, List.all_cons, Bool.and_eq_true] at hf
          rw [List.map_cons, List.nodup_cons] at hn
          rcases List.mem_cons.mp hm with z | z
          · subst z
            have e1 : p.1 = k := h1.1
            have e2 : q2.1 = k := h2.1.symm.trans e1
            unfold valueAt at hv
            rw [List.find?_cons_of_pos (by simp [e2])] at hv
            have : q2.2 = y := Option.some.inj hv
            exact ⟨p.2, h1.2, this ▸ h2.2, hf.1⟩
          · have nk : q2.1 ≠ k := by
              intro e
              have e3 : q.1 = k := h1.1.symm.trans (h2.1.trans e)
              exact hn.1 (List.mem_map.mpr ⟨_, z, e3.symm⟩)
            refine ih t2 hf.2 hn.2 z ?_
            unfold valueAt at hv ⊢
            rw [List.find?_cons_of_neg (by simpa using nk)] at hv
            exact hv
    obtain ⟨x, r1, r2, hf⟩ := lem ra rb hT nd hm hv
    have hx : flatB x = true := by
      cases x with
      | byt _ => exact absurd (show false = true from hf) Bool.false_ne_true
      | flt _ => exact absurd (show false = true from hf) Bool.false_ne_true
      | ref _ => exact absurd (show false = true from hf) Bool.false_ne_true
      | ty _ => exact absurd (show false = true from hf) Bool.false_ne_true
      | _ => rfl
    exact (eqAt_same r1 r2 hx).inModel _ _
  have hl : va.length = vb.length := by rw [← ra.length, ← rb.length]
  refine PySem.W.keq_eqIn (knd := mixKind X.prog X.w) (r := true) ya yb da db hu (fun _ => ?_) ?_
  · have hall : (va.all fun p => (valueAt vb p.1).isSome && (fun _ => true) p.1) = true := by
      rw [List.all_eq_true]
      intro p hp
      have hk : p.1 ∈ vb.map (·.1) := by
        rw [← keys_same rb, keys_same ra]
        exact List.mem_map.mpr ⟨p, hp, rfl⟩
      obtain ⟨q, hq1, hq2⟩ := List.mem_map.mp hk
      have : (valueAt vb p.1).isSome = true := by
        unfold valueAt
        rw [Option.isSome_map, List.find?_isSome]
        exact ⟨q, hq1, by simp [hq2]⟩
      rw [this]
      rfl
    have := PySem.W.KeqHitsIn.of (prog := X.prog) (w := X.w) (A := A.in1) (s := s) (kb := vb) (e := fun _ => true) va key
    rw [hall] at this
    exact this
  · rw [hl]
    simpa using hq
end
end Kq
namespace Kq
open PySem PySem.Spec PyProof.Rows L2
open PySem.SeqAt PySem.MeetsSeq
section
variable {T : Tb} {X : Cx} {pins : List (Addr × Obj)} {σ : L2.St} {H : Hp} {s : Shared}
theorem rel_notFl {T : Tb} {H : Hp} {v : V} {d : PyData} {u : Value} (h : Dq T H v d) (r : RelV v u) : notFl u = true := by
  cases h with
  | non => cases r; rfl
  | bl b => cases r; rfl
  | int i => obtain ⟨t, rfl⟩ := r; rfl
  | str x => obtain ⟨t, rfl⟩ := r; rfl
  | lst _ _ => cases r; rfl
  | tup _ _ => cases r; rfl
  | dct _ => cases r; rfl
mutual
theorem rc_eq (I : Inv X pins σ H s) (hT : flatT T = true) : ∀ (v : V) (d e : PyData) (y : V) (u w : Value) (A : Around), Dq T H v d → Dq T H y e → RelV v u → RelV y w → A.units + d.depth < cLine →
    ∃ b, (b = true ↔ nrm d = nrm e) ∧ RcW X.prog X.w A s u w b
  | _, _, e, y, u, w, A, .non, h2, r1, r2, hu => by
    have hu0 : A.units < cLine := Nat.lt_of_le_of_lt (Nat.le_add_right _ _) hu
    cases r1
    cases h2 with
    | non =>
      cases r2
      exact ⟨true, by simp [nrm], fun E Q h => RcAt.none_none   _ _ E Q h⟩
    | bl q =>
      cases r2
      exact ⟨false, by simp [nrm], fun E Q h => RcAt.none_bool  q _ _ E Q h⟩
    | int q =>
      obtain ⟨t2, rfl⟩ := r2
      exact ⟨false, by simp [nrm], fun E Q h => RcAt.none_int  q t2 _ _ E Q h⟩
    | str q =>
      obtain ⟨t2, rfl⟩ := r2
      exact ⟨false, by simp [nrm], fun E Q h => RcAt.none_str  q t2 _ _ E Q h⟩
    | lst e2 q2 =>
      cases r2
      obtain ⟨its2, rv2, hl2⟩ := list_at I e2
      exact ⟨false, by simp [nrm], fun E Q h => RcAt.none_list  hl2 hu0 _ _ E Q h⟩
    | tup e2 q2 =>
      cases r2
      obtain ⟨its2, rv2, hl2⟩ := tuple_at I e2
      exact ⟨false, by simp [nrm], fun E Q h => RcAt.none_tuple  hl2 hu0 _ _ E Q h⟩
    | dct e2 =>
      cases r2
      obtain ⟨es2, ep2, ha2⟩ := dict_at I e2
      exact ⟨false, by simp [nrm, tD], fun E Q h => rc_none_dict  ha2 hu0 h⟩
  | _, _, e, y, u, w, A, .bl p, h2, r1, r2, hu => by
    have hu0 : A.units < cLine := Nat.lt_of_le_of_lt (Nat.le_add_right _ _) hu
    cases r1
    cases h2 with
    | non =>
      cases r2
      exact ⟨false, by simp [nrm], fun E Q h => RcAt.bool_none p  _ _ E Q h⟩
    | bl q =>
      cases r2
      exact ⟨(p == q), by cases p <;> cases q <;> simp [nrm], fun E Q h => RcAt.bool_bool p q _ _ E Q h⟩
    | int q =>
      obtain ⟨t2, rfl⟩ := r2
      exact ⟨((if p then 1 else 0) == q), by cases p <;> simp [nrm], fun E Q h => RcAt.bool_int p q t2 _ _ E Q h⟩
    | str q =>
      obtain ⟨t2, rfl⟩ := r2
      exact ⟨false, by simp [nrm], fun E Q h => RcAt.bool_str p q t2 _ _ E Q h⟩
    | lst e2 q2 =>
      cases r2
      obtain ⟨its2, rv2, hl2⟩ := list_at I e2
      exact ⟨false, by simp [nrm], fun E Q h => RcAt.bool_list p hl2 hu0 _ _ E Q h⟩
    | tup e2 q2 =>
      cases r2
      obtain ⟨its2, rv2, hl2⟩ := tuple_at I e2
      exact ⟨false, by simp [nrm], fun E Q h => RcAt.bool_tuple p hl2 hu0 _ _ E Q h⟩
    | dct e2 =>
      cases r2
      obtain ⟨es2, ep2, ha2⟩ := dict_at I e2
      exact ⟨false, by simp [nrm, tD], fun E Q h => rc_bool_dict p ha2 hu0 h⟩
  | _, _, e, y, u, w, A, .int p, h2, r1, r2, hu => by
    have hu0 : A.units < cLine := Nat.lt_of_le_of_lt (Nat.le_add_right _ _) hu
    obtain ⟨t, rfl⟩ := r1
    cases h2 with
    | non =>
      cases r2
      exact ⟨false, by simp [nrm], fun E Q h => RcAt.int_none p t  _ _ E Q h⟩
    | bl q =>
      cases r2
      exact ⟨(p == (if q then 1 else 0)), by cases q <;> simp [nrm], fun E Q h => RcAt.int_bool p t q _ _ E Q h⟩
    | int q =>
      obtain ⟨t2, rfl⟩ := r2
      exact ⟨(p == q), by simp [nrm], fun E Q h => RcAt.int_int p t q t2 _ _ E Q h⟩
    | str q =>
      obtain ⟨t2, rfl⟩ := r2
      exact ⟨false, by simp [nrm], fun E Q h => RcAt.int_str p t q t2 _ _ E Q h⟩
    | lst e2 q2 =>
      cases r2
      obtain ⟨its2, rv2, hl2⟩ := list_at I e2
      exact ⟨false, by simp [nrm], fun E Q h => RcAt.int_list p t hl2 hu0 _ _ E Q h⟩
    | tup e2 q2 =>
      cases r2
      obtain ⟨its2, rv2, hl2⟩ := tuple_at I e2
      exact ⟨false, by simp [nrm], fun E Q h => RcAt.int_tuple p t hl2 hu0 _ _ E Q h⟩
    | dct e2 =>
      cases r2
      obtain ⟨es2, ep2, ha2⟩ := dict_at I e2
      exact ⟨false, by simp [nrm, tD], fun E Q h => rc_int_dict p t ha2 hu0 h⟩
  | _, _, e, y, u, w, A, .str p, h2, r1, r2, hu => by
    have hu0 : A.units < cLine := Nat.lt_of_le_of_lt (Nat.le_add_right _ _) hu
    obtain ⟨t, rfl⟩ := r1
    cases h2 with
    | non =>
      cases r2
      exact ⟨false, by simp [nrm], fun E Q h => RcAt.str_none p t  _ _ E Q h⟩
    | bl q =>
      cases r2
      exact ⟨false, by simp [nrm], fun E Q h => RcAt.str_bool p t q _ _ E Q h⟩
    | int q =>
      obtain ⟨t2, rfl⟩ := r2
      exact ⟨false, by simp [nrm], fun E Q h => RcAt.str_int p t q t2 _ _ E Q h⟩
    | str q =>
      obtain ⟨t2, rfl⟩ := r2
      exact ⟨(p == q), by simp [nrm], fun E Q h => RcAt.str_str p t q t2 _ _ E Q h⟩
    | lst e2 q2 =>
      cases r2
      obtain ⟨its2, rv2, hl2⟩ := list_at I e2
      exact ⟨false, by simp [nrm], fun E Q h => RcAt.str_list p t hl2 hu0 _ _ E Q h⟩
    | tup e2 q2 =>
      cases r2
      obtain ⟨its2, rv2, hl2⟩ := tuple_at I e2
      exact ⟨false, by simp [nrm], fun E Q h => RcAt.str_tuple p t hl2 hu0 _ _ E Q h⟩
    | dct e2 =>
      cases r2
      obtain ⟨es2, ep2, ha2⟩ := dict_at I e2
      exact ⟨false, by simp [nrm, tD], fun E Q h => rc_str_dict p t ha2 hu0 h⟩
  | _, _, e, y, u, w, A, .lst (a := a) (xs := xs) (ds := ds) e1 q1, h2, r1, r2, hu => by
    have hu0 : A.units < cLine := Nat.lt_of_le_of_lt (Nat.le_add_right _ _) hu
    cases r1
    obtain ⟨its, rv, hl⟩ := list_at I e1
    cases h2 with
    | non =>
      cases r2
      exact ⟨false, by simp [nrm], fun E Q h => RcAt.list_none  hl hu0 _ _ E Q h⟩
    | bl q =>
      cases r2
      exact ⟨false, by simp [nrm], fun E Q h => RcAt.list_bool q hl hu0 _ _ E Q h⟩
    | int q =>
      obtain ⟨t2, rfl⟩ := r2
      exact ⟨false, by simp [nrm], fun E Q h => RcAt.list_int q t2 hl hu0 _ _ E Q h⟩
    | str q =>
      obtain ⟨t2, rfl⟩ := r2
      exact ⟨false, by simp [nrm], fun E Q h => RcAt.list_str q t2 hl hu0 _ _ E Q h⟩
    | lst e2 q2 =>
      cases r2
      obtain ⟨its2, rv2, hl2⟩ := list_at I e2
      rename_i xs2 ds2
      have hu1 : A.in1.units + PyData.depthAll ds < cLine := by
        simp only [PyData.depth] at hu
        show A.units + 1 + _ < cLine
        omega
      obtain ⟨f, hf1, hf2⟩ := items_eq I hT ds q1 q2 rv rv2 hu1
      have l1 := q1.length
      have l2 := q2.length
      have l3 := rv.length
      have l4 := rv2.length
      by_cases hz : its.toArray.size = its2.toArray.size
      · refine ⟨(List.range its.toArray.size).all f, ?_, fun E Q h => rcIn_lists hl hl2 hz hu0 (fun j h1 h2 => ?_) h⟩
        · rw [hf2 its.toArray.size (by rw [List.size_toArray, ← l3, l1]) (by rw [hz, List.size_toArray, ← l4, l2])]
          simp only [nrm, PyData.list.injEq]
        · have := hf1 j (by simpa using h1) (by simpa using h2)
          simpa using this
      · refine ⟨false, ?_, fun E Q h => RcAt.lists_lengths hl hl2 (by simpa using hz) hu0 _ _ E Q h⟩
        simp only [nrm, PyData.list.injEq, Bool.false_eq_true, false_iff]
        intro z
        have := congrArg List.length z
        rw [nrms_map, nrms_map, List.length_map, List.length_map] at this
        rw [List.size_toArray, List.size_toArray] at hz
        omega
    | tup e2 q2 =>
      cases r2
      obtain ⟨its2, rv2, hl2⟩ := tuple_at I e2
      exact ⟨false, by simp [nrm], fun E Q h => RcAt.list_tuple hl hl2 hu0 _ _ E Q h⟩
    | dct e2 =>
      cases r2
      obtain ⟨es2, ep2, ha2⟩ := dict_at I e2
      exact ⟨false, by simp [nrm, tD], fun E Q h => rc_list_dict ha2 hl hu0 h⟩
  | _, _, e, y, u, w, A, .tup (a := a) (xs := xs) (ds := ds) e1 q1, h2, r1, r2, hu => by
    have hu0 : A.units < cLine := Nat.lt_of_le_of_lt (Nat.le_add_right _ _) hu
    cases r1
    obtain ⟨its, rv, hl⟩ := tuple_at I e1
    cases h2 with
    | non =>
      cases r2
      exact ⟨false, by simp [nrm], fun E Q h => RcAt.tuple_none  hl hu0 _ _ E Q h⟩
    | bl q =>
      cases r2
      exact ⟨false, by simp [nrm], fun E Q h => RcAt.tuple_bool q hl hu0 _ _ E Q h⟩
    | int q =>
      obtain ⟨t2, rfl⟩ := r2
      exact ⟨false, by simp [nrm], fun E Q h => RcAt.tuple_int q t2 hl hu0 _ _ E Q h⟩
    | str q =>
      obtain ⟨t2, rfl⟩ := r2
      exact ⟨false, by simp [nrm], fun E Q h => RcAt.tuple_str q t2 hl hu0 _ _ E Q h⟩
    | lst e2 q2 =>
      cases r2
      obtain ⟨its2, rv2, hl2⟩ := list_at I e2
      exact ⟨false, by simp [nrm], fun E Q h => RcAt.tuple_list hl hl2 hu0 _ _ E Q h⟩
    | tup e2 q2 =>
      cases r2
      obtain ⟨its2, rv2, hl2⟩ := tuple_at I e2
      rename_i xs2 ds2
      have hu1 : A.in1.units + PyData.depthAll ds < cLine := by
        simp only [PyData.depth] at hu
        show A.units + 1 + _ < cLine
        omega
      obtain ⟨f, hf1, hf2⟩ := items_eq I hT ds q1 q2 rv rv2 hu1
      have l1 := q1.length
      have l2 := q2.length
      have l3 := rv.length
      have l4 := rv2.length
      refine ⟨(List.range (min its.toArray.size its2.toArray.size)).all f && its.toArray.size == its2.toArray.size, ?_, fun E Q h => rcIn_tuples hl hl2 hu0 (fun j h1 h2 => ?_) h⟩
      · by_cases hz : its.toArray.size = its2.toArray.size
        · rw [← hz, Nat.min_self, beq_self_eq_true, Bool.and_true, hf2 its.toArray.size (by rw [List.size_toArray, ← l3, l1]) (by rw [hz, List.size_toArray, ← l4, l2])]
          simp only [nrm, PyData.tuple.injEq]
        · rw [show (its.toArray.size == its2.toArray.size) = false from by simpa using hz, Bool.and_false]
          simp only [nrm, PyData.tuple.injEq, Bool.false_eq_true, false_iff]
          intro z
          have := congrArg List.length z
          rw [nrms_map, nrms_map, List.length_map, List.length_map] at this
          rw [List.size_toArray, List.size_toArray] at hz
          omega
      · have := hf1 j (by simpa using h1) (by simpa using h2)
        simpa using this
    | dct e2 =>
      cases r2
      obtain ⟨es2, ep2, ha2⟩ := dict_at I e2
      exact ⟨false, by simp [nrm, tD], fun E Q h => rc_tuple_dict ha2 hl hu0 h⟩
  | _, _, e, y, u, w, A, .dct (a := a) e1, h2, r1, r2, hu => by
    have hu0 : A.units < cLine := Nat.lt_of_le_of_lt (Nat.le_add_right _ _) hu
    cases r1
    obtain ⟨es, ep, ha⟩ := dict_at I e1
    cases h2 with
    | non =>
      cases r2
      exact ⟨false, by simp [nrm, tD], fun E Q h => rc_dict_none  ha hu0 h⟩
    | bl q =>
      cases r2
      exact ⟨false, by simp [nrm, tD], fun E Q h => rc_dict_bool q ha hu0 h⟩
    | int q =>
      obtain ⟨t2, rfl⟩ := r2
      exact ⟨false, by simp [nrm, tD], fun E Q h => rc_dict_int q t2 ha hu0 h⟩
    | str q =>
      obtain ⟨t2, rfl⟩ := r2
      exact ⟨false, by simp [nrm, tD], fun E Q h => rc_dict_str q t2 ha hu0 h⟩
    | lst e2 q2 =>
      cases r2
      obtain ⟨its2, rv2, hl2⟩ := list_at I e2
      exact ⟨false, by simp [nrm, tD], fun E Q h => rc_dict_list ha hl2 hu0 h⟩
    | tup e2 q2 =>
      cases r2
      obtain ⟨its2, rv2, hl2⟩ := tuple_at I e2
      exact ⟨false, by simp [nrm, tD], fun E Q h => rc_dict_tuple ha hl2 hu0 h⟩
    | dct e2 =>
      cases r2
      obtain ⟨es2, ep2, ha2⟩ := dict_at I e2
      exact ⟨true, by simp, rc_dict_dict I hT e1 e2 hu0⟩
theorem items_eq (I : Inv X pins σ H s) (hT : flatT T = true) : ∀ (ds : List PyData) {es : List PyData} {vs ys : List V} {us ws : List Value} {A : Around}, Dqs T H vs ds → Dqs T H ys es → Vals vs us → Vals ys ws → A.units + PyData.depthAll ds < cLine →
    ∃ f : Nat → Bool, (∀ j (h1 : j < us.length) (h2 : j < ws.length), EqIn X.prog X.w A s us[j] ws[j] (f j)) ∧ ∀ n, n = ds.length → n = es.length → ((List.range n).all f = true ↔ nrms ds = nrms es)
  | _, es, _, ys, us, ws, A, .nil, q2, r1, r2, hu => by
    cases r1
    refine ⟨fun _ => true, fun j h1 => absurd h1 (Nat.not_lt_zero j), fun n h1 h2 => ?_⟩
    have h1' : n = 0 := h1
    subst h1'
    cases es with
    | nil => simp
    | cons a b => simp at h2
  | _, _, _, _, us, ws, A, .cons (d := d) (ds := ds) a1 b1, q2, r1, r2, hu => by
    cases r1 with
    | cons rv1 rs1 =>
      cases q2 with
      | nil =>
        cases r2
        refine ⟨fun _ => true, fun j _ h2 => absurd h2 (Nat.not_lt_zero j), fun n h1 h2 => ?_⟩
        rw [h2] at h1
        simp at h1
      | cons a2 b2 =>
        rename_i y ys e es
        cases r2 with
        | cons rv2 rs2 =>
          have hu1 : A.units + d.depth < cLine := by simp only [PyData.depthAll] at hu; omega
          have hu2 : A.units + PyData.depthAll ds < cLine := by simp only [PyData.depthAll] at hu; omega
          obtain ⟨b, hb1, hb2⟩ := rc_eq I hT _ _ _ _ _ _ A a1 a2 rv1 rv2 hu1
          obtain ⟨f, hf1, hf2⟩ := items_eq I hT ds (A := A) b1 b2 rs1 rs2 hu2
          refine ⟨fun j => match j with | 0 => b | j + 1 => f j, fun j h1 h2 => ?_, fun n h1 h2 => ?_⟩
          · cases j with
            | zero =>
              refine eqIn_rc hb2 (fun z => ?_) (rel_notFl a1 rv1)
              have z' := z
              simp only [List.getElem_cons_zero] at z'
              rw [z'] at rv1
              have := RelV.inj rv1 rv2
              subst this
              exact hb1.mpr (by rw [Dq.fn a1 a2])
            | succ j => exact hf1 j (Nat.lt_of_succ_lt_succ h1) (Nat.lt_of_succ_lt_succ h2)
          · cases n with
            | zero => simp at h1
            | succ n =>
              have := hf2 n (by simpa using h1) (by simpa using h2)
              rw [List.range_succ_eq_map, List.all_cons, List.all_map]
              simp only [nrms, List.cons.injEq, Bool.and_eq_true]
              rw [← this, ← hb1]
              exact Iff.rfl
end
end
/-! ### the rules -/
def rEqQ (T : Tb) : R2 := fun x y H Q => ∃ d e, Dq T H x d ∧ Dq T H y e ∧ d.depth ≤ 60 ∧ ∀ b : Bool, (b = true ↔ nrm d = nrm e) → Q (.bl b) H
theorem op_eqQ {T : Tb} {X : Cx} (hT : flatT T = true) (hu : X.A.units + 64 < cLine) : OpR X (compareOp .Eq) (rEqQ T) := by
  intro pins s σ H x y v u Q I rx ry h
  obtain ⟨d, e, hd, he, hp, q⟩ := h
  obtain ⟨b, h1, h2⟩ := rc_eq I hT x d e y v u X.A hd he rx ry (by omega)
  exact h2 _ _ ⟨.bl b, H, I, rfl, q b h1⟩
end Kq
namespace Kq
open PySem PySem.Spec PyProof.Rows L2
/-! ## == and != of instances with an own __eq__, against anything -/
/-- the class of a value -/
inductive TyOf (H : Hp) : V → Value → Prop
  | non : TyOf H .non (.type "NoneType")
  | bl (b : Bool) : TyOf H (.bl b) (.type "bool")
  | int (i : Int) : TyOf H (.int i) (.type "int")
  | str (x : Str) : TyOf H (.str x) (.type "str")
  | lst {a : Addr} {xs : List V} : H a = some (.lst xs) → TyOf H (.ref a) (.type "list")
  | tup {a : Addr} {xs : List V} : H a = some (.tup xs) → TyOf H (.ref a) (.type "tuple")
  | dct {a : Addr} {kvs : List (Key × V)} : H a = some (.dK kvs) → TyOf H (.ref a) (.type "dict")
  | ins {a C dx : Addr} {fs : List (Str × V)} : H a = some (.ins C dx fs) → TyOf H (.ref a) (.ref C)
theorem Dq.ty {T : Tb} {H : Hp} {v : V} {d : PyData} (h : Dq T H v d) : ∃ t : String, TyOf H v (.type t) ∧ t ∈ ["NoneType", "bool", "int", "str", "list", "tuple", "dict"] := by
  cases h with
  | non => exact ⟨_, .non, by simp⟩
  | bl b => exact ⟨_, .bl b, by simp⟩
  | int i => exact ⟨_, .int i, by simp⟩
  | str x => exact ⟨_, .str x, by simp⟩
  | lst e _ => exact ⟨_, .lst e, by simp⟩
  | tup e _ => exact ⟨_, .tup e, by simp⟩
  | dct e => exact ⟨_, .dct e, by simp⟩
end Kq
namespace Kq
open PySem PySem.Spec PyProof.Rows L2
/-! ## operators, whatever the values are -/
section
variable {X : Cx}
section
variable {K : PySem.W.Frag}
theorem opAddP (hK : X.K = K := by rfl) : OpR X (binaryOp .Add) (fun x y H Q => rI0 (fun i j => .int (i + j)) x y H Q ∨ (∃ i j, x = .str i ∧ y = .str j ∧ i.length + j.length ≤ sizeLine ∧ Q (.str (i ++ j)) H) ∨ rCat x y H Q ∨ rCatA K x y H Q) := by
  subst hK
  exact op_add.or (op_add_str.or (op_cat.or op_catA))
theorem opSubP : OpR X (binaryOp .Sub) (rI0 fun i j => .int (i - j)) := op_sub
theorem opEqP {T : Tb} (hT : flatT T = true) (hu : X.A.units + 64 < cLine) : OpR X (compareOp .Eq) (fun x y H Q => rEq x y H Q ∨ rEqQ T x y H Q) := op_eq.or (op_eqQ hT hu)
theorem opNeP (hu : X.A.units + 64 < cLine) (hK : X.K = K := by rfl) : OpR X (compareOp .NotEq) (fun x y H Q => rNe x y H Q ∨ rNeD K x y H Q) := by
  subst hK
  exact op_ne.or (op_neD hu)
theorem opLtP : OpR X (compareOp .Lt) (fun x y H Q => rI0 (fun i j => .bl (decide (i < j))) x y H Q ∨ (∃ i j, x = .str i ∧ y = .str j ∧ Q (.bl (decide (i.cps.toList < j.cps.toList))) H)) := op_lt.or op_lt_str
theorem opGtP : OpR X (compareOp .Gt) (fun x y H Q => rI0 (fun i j => .bl (decide (j < i))) x y H Q ∨ (∃ i j, x = .str i ∧ y = .str j ∧ Q (.bl (decide (j.cps.toList < i.cps.toList))) H)) := op_gt.or op_gt_str
theorem opGeP : OpR X (compareOp .GtE) (fun x y H Q => rI0 (fun i j => .bl (decide (j ≤ i))) x y H Q ∨ (∃ i j, x = .str i ∧ y = .str j ∧ Q (.bl (!decide (i.cps.toList < j.cps.toList))) H)) := op_ge.or op_ge_str
theorem ixP (hK : X.K = K := by rfl) : IxR X (rIx K) := by
  subst hK
  exact ix_seq
theorem slP (hK : X.K = K := by rfl) : SlR X (fun x lo hi H Q => rSlL K x lo hi H Q ∨ rSlA K x lo hi H Q ∨ rSlS x lo hi H Q) := by
  subst hK
  exact sl_list.or (sl_tupA.or sl_str)
theorem callLenP (hK : X.K = K := by rfl) : CallR X (.builtin "len") (fun xs H Q => (∃ p ys, xs = [.ref p] ∧ (SqL K H p ys ∨ SqT K H p ys) ∧ Q (.int ys.length) H) ∨ (∃ z, xs = [.str z] ∧ z.length ≤ sizeLine ∧ Q (.int z.length) H)) := by
  subst hK
  exact call_len_seq.or call_len_str
theorem callListP (hK : X.K = K := by rfl) : CallR X (.type "list") (fun xs H Q => ∃ p ys, xs = [.ref p] ∧ (SqL K H p ys ∨ SqT K H p ys) ∧ ∀ l, H l = none → Q (.ref l) (upd H l (.lst ys))) := by
  subst hK
  exact call_list_of
theorem pi_listP {tg l : Expr} {tl : TE} (hl : PE X l tl) (hK : X.K = K := by rfl) : PI X tg l (iList K tl) := by
  subst hK
  exact pi_list hl
theorem pi_tupP {tg l : Expr} {tl : TE} (hl : PE X l tl) (hK : X.K = K := by rfl) : PI X tg l (iTup K tl) := by
  subst hK
  exact pi_tup hl
end
end
end Kq
namespace Kq
open PySem PySem.Spec PyProof.Rows L2
/-! ## the pen: what draws -/
def PenAt (H : Hp) (p c : Addr) (n : Nat) : Prop := ∃ (ns : List Int) (k r : Int), H p = some (.lst [.ref c, .int k, .int r]) ∧ H c = some (.lst (ns.map V.int)) ∧ ns.length ≤ 63 ∧ 0 ≤ k ∧ k ≤ n
theorem PenAt.some {H : Hp} {p c : Addr} {n : Nat} (h : PenAt H p c n) : H p ≠ none := by
  obtain ⟨ns, k, r, hp, _⟩ := h
  rw [hp]
  simp
theorem PenAt.ne {H : Hp} {p c : Addr} {n : Nat} (h : PenAt H p c n) {a : Addr} (ha : H a = none) : a ≠ p := by
  rintro rfl
  exact h.some ha
theorem PenAt.mono {H : Hp} {p c : Addr} {n m : Nat} (h : PenAt H p c n) (hm : n ≤ m) : PenAt H p c m := by
  obtain ⟨ns, k, r, hp, hc, h1, h2, h3⟩ := h
  exact ⟨ns, k, r, hp, hc, h1, h2, by omega⟩
theorem PenAt.same {H H' : Hp} {p c : Addr} {n : Nat} (h : PenAt H p c n) (s : Same H H') : PenAt H' p c n := by
  obtain ⟨ns, k, r, hp, hc, h1, h2, h3⟩ := h
  exact ⟨ns, k, r, s _ _ hp, s _ _ hc, h1, h2, h3⟩
def In1 (h : Hp) (x v : V) : Prop := (∃ a xs, x = .ref a ∧ (h a = some (.lst xs) ∨ h a = some (.tup xs)) ∧ v ∈ xs) ∨ (∃ (s : Str) (c : Nat), x = .str s ∧ c ∈ s.cps.toList ∧ v = .str ⟨#[c]⟩)
/-! ### arithmetic of the draw -/
theorem lay_ints : ∀ (ns : List Int), PyData.canLayAll0 (ns.map PyData.int) = true
  | [] => rfl
  | n :: ns => by
    rw [List.map_cons]
    unfold PyData.canLayAll0
    rw [lay_ints ns]
    unfold PyData.canLay0
    rfl
theorem depth_ints : ∀ (ns : List Int), PyData.depthAll (ns.map PyData.int) = 0
  | [] => rfl
  | n :: ns => by
    rw [List.map_cons]
    unfold PyData.depthAll PyData.depth
    rw [depth_ints ns]
    rfl
theorem eqv_nil (ns : List Int) : PyData.eqv (.list (ns.map PyData.int)) (.list []) = ns.isEmpty := by
  cases ns with
  | nil => simp [PyData.eqv, PyData.eqvAll]
  | cons n ns => simp [PyData.eqv, PyData.eqvAll]
end Kq
namespace Kq
open PySem PySem.Spec PyProof.Rows L2
end Kq
namespace Kq
open PySem PySem.Spec PyProof.Rows L2
theorem str_ext {a b : Str} (h : a.cps.toList = b.cps.toList) : a = b := by
  obtain ⟨x⟩ := a
  obtain ⟨y⟩ := b
  congr 1
  exact Array.ext' h
theorem In1.lst {h : Hp} {a : Addr} {xs : List V} {v : V} (hi : In1 h (.ref a) v) (ha : h a = some (.lst xs)) : v ∈ xs := by
  rcases hi with ⟨b, ys, e, hb, hv⟩ | ⟨s, c, e, _⟩
  · cases e
    rcases hb with hb | hb
    · rw [ha] at hb
      cases hb
      exact hv
    · rw [ha] at hb
      cases hb
  · cases e
theorem In1.tup {h : Hp} {a : Addr} {xs : List V} {v : V} (hi : In1 h (.ref a) v) (ha : h a = some (.tup xs)) : v ∈ xs := by
  rcases hi with ⟨b, ys, e, hb, hv⟩ | ⟨s, c, e, _⟩
  · cases e
    rcases hb with hb | hb
    · rw [ha] at hb
      cases hb
    · rw [ha] at hb
      cases hb
      exact hv
  · cases e
theorem In1.str {h : Hp} {s : Str} {v : V} (hi : In1 h (.str s) v) : ∃ c, c ∈ s.cps.toList ∧ v = .str ⟨#[c]⟩ := by
  rcases hi with ⟨b, ys, e, hb, hv⟩ | ⟨s', c, e, hc, hv⟩
  · cases e
  · cases e
    exact ⟨c, hc, hv⟩
end Kq
namespace Kq
open PySem PySem.Spec PyProof.Rows L2
end Kq
namespace Kq
open PySem PySem.Spec PyProof.Rows L2
/-! ## small helps for bodies -/
theorem inV_strs (x : Str) (ws : List Str) : inV (.str x) (ws.map V.str) = decide (x ∈ ws) := by
  unfold inV
  rw [List.any_map]
  induction ws with
  | nil => rfl
  | cons w ws ih =>
    rw [List.any_cons, ih]
    show (w == x || _) = _
    rw [Bool.eq_iff_iff, Bool.or_eq_true, beq_iff_eq, decide_eq_true_eq, decide_eq_true_eq, List.mem_cons]
    exact ⟨fun h => h.imp Eq.symm id, fun h => h.imp Eq.symm id⟩
theorem at0 {α : Type} {xs : List α} (h : xs ≠ []) : ∃ x, xs[0]? = some x ∧ x ∈ xs := by
  cases xs with
  | nil => exact absurd rfl h
  | cons a b => exact ⟨a, rfl, List.mem_cons_self ..⟩
end Kq
namespace Kq
open PySem PySem.Spec PyProof.Rows L2
/-! ## making instances of own classes; own methods -/
end Kq
namespace Kq
open PySem PySem.Spec PyProof.Rows L2
/-! ## small data: its repr fits -/
structure Sm (d : PyData) : Prop where
  sh : d.showable = true
  dp : d.depth ≤ 8
  ln : d.shown.length ≤ 20000
theorem textFrom_le : ∀ (ts : List Str) (k : Nat) (acc : Str), (textFrom k acc ts).length ≤ acc.length + (ts.map (·.length)).sum + 2 * ts.length
  | [], k, acc => Nat.le_refl _
  | t :: r, k, acc => by
    have h := textFrom_le r (k + 1) (acc ++ (if k > 0 then ", " else "" : String) ++ t)
    have e : (acc ++ (if k > 0 then ", " else "" : String) ++ t).length ≤ acc.length + 2 + t.length := by
      rw [strLen_append, strLen_append]
      split
      · show acc.length + 2 + t.length ≤ _
        omega
      · show acc.length + 0 + t.length ≤ _
        omega
    show (textFrom (k + 1) _ r).length ≤ _
    rw [List.map_cons, List.sum_cons, List.length_cons]
    omega
theorem listText_le (ts : List Str) : (listText ts).length ≤ (ts.map (·.length)).sum + 2 * ts.length + 2 := by
  unfold listText
  rw [strLen_append]
  have := textFrom_le ts 0 "["
  have h1 : (Str.ofString "[").length = 1 := by decide +kernel
  have h2 : (Str.ofString "]").length = 1 := by decide +kernel
  have h3 : ("[" : Str).length = 1 := h1
  have h4 : ("]" : Str).length = 1 := h2
  omega
theorem shownAll_eq : ∀ ds : List PyData, PyData.shownAll ds = ds.map PyData.shown
  | [] => rfl
  | d :: ds => by
    rw [List.map_cons, ← shownAll_eq ds]
    rfl
theorem showableAll_of : ∀ {ds : List PyData}, (∀ d ∈ ds, Sm d) → PyData.showableAll ds = true
  | [], _ => rfl
  | d :: ds, h => by
    show (d.showable && PyData.showableAll ds) = true
    rw [(h d (List.mem_cons_self ..)).sh, showableAll_of fun e he => h e (List.mem_cons_of_mem _ he)]
    rfl
theorem depthAll_of {n : Nat} : ∀ {ds : List PyData}, (∀ d ∈ ds, d.depth ≤ n) → PyData.depthAll ds ≤ n
  | [], _ => Nat.zero_le _
  | d :: ds, h => by
    show max d.depth (PyData.depthAll ds) ≤ n
    have h1 := h d (List.mem_cons_self ..)
    have h2 := depthAll_of (n := n) fun e (he : e ∈ ds) => h e (List.mem_cons_of_mem _ he)
    omega
theorem sum_le {n : Nat} : ∀ {ts : List Nat}, (∀ t ∈ ts, t ≤ n) → ts.sum ≤ n * ts.length
  | [], _ => Nat.zero_le _
  | t :: ts, h => by
    have h1 := h t (List.mem_cons_self ..)
    have h2 := sum_le (n := n) fun e (he : e ∈ ts) => h e (List.mem_cons_of_mem _ he)
    rw [List.sum_cons, List.length_cons, Nat.mul_add]
    omega
/-! ## str of an instance with an own one -/
end Kq
namespace Kq
open PySem PySem.Spec PyProof.Rows L2
/-! ## own == and != of a class, as promises -/
end Kq
namespace Kq
open PySem PySem.Spec PyProof.Rows L2
end Kq
namespace Kq
open PySem PySem.Spec PyProof.Rows L2
/-! ## the end of a law whose def wants no guarded built-in around it: the harness calls it with none -/
/-- the script's object -/
abbrev scriptO (us : List Value) : Obj := { cls := .type "list", data := .seq us.toArray }
/-- what is tracked at the start: the script, unless it is one of the module's own -/
def HpS (K : PySem.W.Frag) (a : Addr) (us : List Value) (ns : List Int) : Hp := fun b => if b = a ∧ (K.lookup a).isNone = true then some (.frz (scriptO us) (.lst (ns.map V.int))) else none
section
variable {P : Program} {w : World} {K : PySem.W.Frag} {mg mb : Str → Option Value} {k : Nat} {fa a : Addr} {fd : FuncData} {x : Str} {sp : Sp} {s : Shared} {us : List Value} {ns : List Int}
theorem HpS.at {b : Addr} {u : HO} (e : HpS K a us ns b = some u) : b = a ∧ K.lookup a = none ∧ u = .frz (scriptO us) (.lst (ns.map V.int)) := by
  unfold HpS at e
  split at e
  · rename_i h
    cases e
    exact ⟨h.1, Option.isNone_iff_eq_none.mp h.2, rfl⟩
  · cases e
theorem HpS.free {b : Addr} (h : b = a → K.lookup a ≠ none) : HpS K a us ns b = none := by
  cases e : HpS K a us ns b with
  | none => rfl
  | some u => exact absurd (HpS.at e).2.1 (h (HpS.at e).1)
theorem HpS.sq (KX : K.In s.heap) (ha : s.heap.get? a = some (scriptO us)) (hi : IntsAre us ns) (hl : ns.length ≤ sizeLine) : SqL K (HpS K a us ns) a (ns.map V.int) := by
  cases hk : K.lookup a with
  | some o =>
    have e := (KX a o hk).symm.trans ha
    cases e
    exact .inr ⟨_, us.toArray, _, hk, rfl, rfl, rfl, by rw [List.size_toArray, hi.length]; exact hl, by simpa using vals_ints hi⟩
  | none =>
    refine .inl (.inr ⟨scriptO us, ?_⟩)
    unfold HpS
    rw [if_pos ⟨rfl, by rw [hk]; rfl⟩]
theorem HpS.ok (ha : s.heap.get? a = some (scriptO us)) (hi : IntsAre us ns) (hl : ns.length ≤ sizeLine) : HOk P w (HpS K a us ns) s.heap := fun b u e => by
  obtain ⟨rfl, _, rfl⟩ := HpS.at e
  exact ⟨ha, by rw [List.length_map]; exact hl, us, _, vals_ints hi, ha⟩
end
end Kq
namespace Kq
open PySem PySem.Spec PyProof.Rows L2
end Kq
namespace Kq
open PySem PySem.Spec PyProof.Rows L2
/-! ## sets of texts: set(t) of a tuple or list, len, sorted -/
/-- an entry's text -/
def txtOf (e : Int × Value) : Str := match e.2 with
  | .str k _ => k
  | _ => Str.empty
/-- an entry: a text behind its hash -/
def Ent (P : Program) (w : World) (e : Int × Value) : Prop := ∃ k tk, e.2 = Value.str k tk ∧ e.1 = (PySem.strKind P w).hash k
/-- entries and the table over them -/
structure Lay (P : Program) (w : World) (es : Array (Int × Value)) (t : SetTable) : Prop where
  el : ∀ e ∈ es.toList, Ent P w e
  nd : (es.toList.map txtOf).Nodup
  sz : es.size < scanBound
  ft : t.fits es.size = true
  rs : Ris t.place.toList
  lg : w.params.followText "set-order" = true ∨ t.led = true
/-- the set at a holds just the texts of xs -/
def TxtSet (P : Program) (w : World) (h : Heap) (a : Addr) (xs : List Str) : Prop :=
  ∃ o es ep t, h.get? a = some o ∧ o.ExactSet ∧ o.data = .set es ep t ∧ Lay P w es t ∧ (∀ k, k ∈ xs ↔ k ∈ es.toList.map txtOf) ∧ es.size ≤ xs.length
section
variable {P : Program} {w : World} {A : Around} {E : Value → Shared → Prop} {s : Shared} {a : Addr} {xs : List Str} {h h' : Heap}
theorem TxtSet.keep (R : TxtSet P w h a xs) (k : ∀ o, h.get? a = some o → h'.get? a = some o) : TxtSet P w h' a xs := by
  obtain ⟨o, es, ep, t, e, r⟩ := R
  exact ⟨o, es, ep, t, k o e, r⟩
theorem Ent.is {e : Int × Value} (g : Ent P w e) (k : Str) : (PySem.strKind P w).is k e.2 = true ↔ txtOf e = k := by
  obtain ⟨j, tk, e1, _⟩ := g
  unfold txtOf
  rw [e1]
  show (j == k) = true ↔ j = k
  exact beq_iff_eq
theorem Lay.mem {es : Array (Int × Value)} {t : SetTable} (L : Lay P w es t) (k : Str) : k ∈ es.toList.map txtOf ↔ ∃ e ∈ es.toList, (PySem.strKind P w).is k e.2 = true :=
  List.mem_map.trans ⟨fun ⟨e, m, q⟩ => ⟨e, m, ((L.el e m).is k).mpr q⟩, fun ⟨e, m, q⟩ => ⟨e, m, ((L.el e m).is k).mp q⟩⟩
end
end Kq
namespace Kq
open PySem PySem.Spec PyProof.Rows L2
section
variable {P : Program} {w : World} {A : Around} {E : Value → Shared → Prop} {s : Shared} {h : Heap} {a : Addr}
/-- a set that was just made -/
abbrev setO0 (w : World) : Obj := { cls := .type "set", dict := none, data := .set #[] 0 (.fresh 0 0 (!w.params.followText "set-order")) }
theorem TxtSet.fresh (e : h.get? a = some (setO0 w)) : TxtSet P w h a [] :=
  ⟨_, #[], 0, _, e, ⟨rfl, rfl, rfl⟩, rfl, ⟨fun b z => by simp at z, by simp, by decide, rfl, List.Pairwise.nil, by
    show _ ∨ (!w.params.followText "set-order") = true
    cases w.params.followText "set-order" <;> simp⟩, fun k => by simp, Nat.le_refl _⟩
end
end Kq
namespace Kq
open PySem PySem.Spec PyProof.Rows L2
/-! ## the order of texts; rows that rise -/
def LtS (a b : Str) : Prop := a.cps.toList < b.cps.toList
instance (a b : Str) : Decidable (LtS a b) := inferInstanceAs (Decidable (a.cps.toList < b.cps.toList))
theorem LtS.irrefl (a : Str) : ¬ LtS a a := List.lt_irrefl _
theorem LtS.trans {a b c : Str} (h1 : LtS a b) (h2 : LtS b c) : LtS a c := List.lt_trans h1 h2
theorem LtS.asymm {a b : Str} (h : LtS a b) : ¬ LtS b a := fun h2 => LtS.irrefl a (h.trans h2)
theorem LtS.tri {a b : Str} (h1 : ¬ LtS a b) (h2 : ¬ LtS b a) : a = b := str_ext (List.le_antisymm (List.not_lt.mp h2) (List.not_lt.mp h1))
/-- strictly rising -/
abbrev Ris1 (xs : List Str) : Prop := xs.Pairwise LtS
/-- two rising rows with the same texts are the same row -/
theorem Ris1.ext : ∀ {xs ys : List Str}, Ris1 xs → Ris1 ys → (∀ k, k ∈ xs ↔ k ∈ ys) → xs = ys
  | [], [], _, _, _ => rfl
  | [], y :: ys, _, _, m => absurd ((m y).mpr (List.mem_cons_self ..)) (List.not_mem_nil)
  | x :: xs, [], _, _, m => absurd ((m x).mp (List.mem_cons_self ..)) (List.not_mem_nil)
  | x :: xs, y :: ys, hx, hy, m => by
    obtain ⟨hx1, hx2⟩ := List.pairwise_cons.mp hx
    obtain ⟨hy1, hy2⟩ := List.pairwise_cons.mp hy
    have e : x = y := by
      rcases List.mem_cons.mp ((m x).mp (List.mem_cons_self ..)) with h | h
      · exact h
      rcases List.mem_cons.mp ((m y).mpr (List.mem_cons_self ..)) with h2 | h2
      · exact h2.symm
      exact absurd (hx1 _ h2) (hy1 _ h).asymm
    subst e
    congr 1
    refine Ris1.ext hx2 hy2 fun k => ?_
    have mk := m k
    rw [List.mem_cons, List.mem_cons] at mk
    constructor
    · intro hk
      rcases mk.mp (Or.inr hk) with h | h
      · subst h
        exact absurd (hx1 _ hk) (LtS.irrefl _)
      · exact h
    · intro hk
      rcases mk.mpr (Or.inr hk) with h | h
      · subst h
        exact absurd (hy1 _ hk) (LtS.irrefl _)
      · exact h
/-! ## set(..), len(set), sorted(set) as rules -/
end Kq
namespace Kq
open PySem PySem.Spec PyProof.Rows L2
/-! ## own special methods: len, in, &, |, -, ^, iteration -/
/-! ### iteration by an own __iter__ that gives a tuple's iterator -/
end Kq
namespace Kq
open PySem PySem.Spec PyProof.Rows L2
/-! ## list(o) of an own iterable with an own length -/
end Kq
namespace Kq
open PySem PySem.Spec PySem.Calls PyProof.Rows L2 StX ClX
/-! ## star calls; classes and classmethods as promises -/
end Kq
namespace Kq
open PySem PySem.Spec PyProof.Rows L2
section
variable {X : Cx} {k j : Nat} {C : Addr} {sp : Sp} {x m : Str} {p pos apos : Pos} {e o : Expr} {es : List Expr} {ta : TE} {t : TA} {K : PySem.W.Frag} {v : V}
theorem callIsiP (hK : X.K = K := by rfl) : CallR X (.builtin "isinstance") (rIsi K) := by
  subst hK
  exact call_isi
theorem callIsiTP (hK : X.K = K := by rfl) : CallR X (.builtin "isinstance") (rIsiT K) := by
  subst hK
  exact call_isiT
end
end Kq
namespace Kq
open PySem PySem.Spec PyProof.Rows L2
/-! ## a class of the text: made, read, asked for by isinstance -/
structure ClsI (K : PySem.W.Frag) (mg : Str → Option Value) (x : Str) (C : Addr) : Prop where
  hm : mg x = some (.ref C)
  cl : Cls K C
  ha : PySem.W.findIn K (.ref C) "__class__" = some (some (.builtin "object.__class__"))
  hn : PySem.W.specialIn K (.builtin "object.__class__") "__get__" = some (some (.builtin "getset_descriptor.__get__"))
  htk : PySem.W.takesIn K (.builtin "object.__class__") = some true
  ho : PySem.W.mroIn K C (.type "object") = some true
  ct : PySem.W.typeIn K (.ref C) = some (.type "type")
abbrev tys7 : List String := ["NoneType", "bool", "int", "str", "list", "tuple", "dict"]
section
variable {K : PySem.W.Frag} {mg : Str → Option Value} {x : Str} {C : Addr} {H : Hp}
theorem ClsI.ins (S : ClsI K mg x C) {b dx : Addr} {fs : List (Str × V)} (e : H b = some (.ins C dx fs)) : TyX K H (.ref b) (.ref C) := .base (.ins e S.cl S.ha S.hn S.htk S.ho)
/-- plain values and their types -/
inductive TyV (H : Hp) : V → String → Prop
  | non : TyV H .non "NoneType"
  | bl (b : Bool) : TyV H (.bl b) "bool"
  | int (i : Int) : TyV H (.int i) "int"
  | str (x : Str) : TyV H (.str x) "str"
  | lst {a : Addr} {xs : List V} (e : H a = some (.lst xs)) : TyV H (.ref a) "list"
  | tup {a : Addr} {xs : List V} (e : H a = some (.tup xs)) : TyV H (.ref a) "tuple"
  | dct {a : Addr} {kvs : List (Key × V)} (e : H a = some (.dK kvs)) : TyV H (.ref a) "dict"
theorem TyV.mem {v : V} {t : String} (h : TyV H v t) : t ∈ tys7 := by cases h <;> decide
theorem TyV.tyX {v : V} {t : String} (h : TyV H v t) : TyX K H v (.type t) := by
  cases h with
  | non => exact .base .non
  | bl b => exact .base (.bl b)
  | int i => exact .base (.int i)
  | str x => exact .base (.str x)
  | lst e => exact .base (.lst e)
  | tup e => exact .base (.tup e)
  | dct e => exact .base (.dK e)
theorem TyV.mono {H' : Hp} {v : V} {t : String} (h : TyV H v t) (s : Same H H') : TyV H' v t := by
  cases h with
  | non => exact .non
  | bl b => exact .bl b
  | int i => exact .int i
  | str x => exact .str x
  | lst e => exact .lst (s _ _ e)
  | tup e => exact .tup (s _ _ e)
  | dct e => exact .dct (s _ _ e)
end
/-! ## words -/
end Kq
namespace Kq
open PySem PySem.Spec PyProof.Rows L2
end Kq
namespace Kq
open PySem PySem.Spec PyProof.Rows L2
/-! ## < of plain data that is alike -/
end Kq
namespace Kq
open PySem PySem.Spec PyProof.Rows L2
/-! ### the order of rows of texts: by the first that differs -/
end Kq
namespace Kq
open PySem PySem.Spec PyProof.Rows L2
/-! ## texts cut at blanks, and put together again -/
end Kq
/-! ## own errors over ValueError whose __init__ says super().__init__(text) and keeps its arguments -/
namespace PySem
namespace ErrX
open PySem.W PySem.Calls PyProof.Rows PySem.HandSPX
section
variable {prog : Program} {w : World} {A : Around} {E : Value → Shared → Prop} {s : Shared} {K : Frag} {mg : Str → Option Value} {C fI cc cda L x : Addr}
/-- what the written part says of an own error's class, of its __init__, and of the program -/
structure Err (prog : Program) (K : Frag) (C fI cc cda : Addr) (qual : Str) (scope : Scope) (fd : FuncData) : Prop where
  cls : ∃ nm q N bs bm sn sub ab col dd k0 k1 k2 k3 k5, K.lookup C = some (excClassObj nm q C N bs bm true sn sub ab col dd k0 k1 k2 k3 k5 "ValueError.__new__") ∧ refsVE bm = true ∧ alongIn K "__init__" bm = some (some (.builtin "ValueError.__init__"))
  sa : findIn K (.ref C) "__setattr__" = some (some (.builtin "object.__setattr__"))
  iC : findIn K (.ref C) "__init__" = some (some (.ref fI))
  tC : typeIn K (.ref fI) = some (.type "function")
  kC : keepIn K (.ref C) = true
  exC : subIn K (.ref C) (.type "BaseException") = some true
  veC : subIn K (.ref C) (.type "ValueError") = some true
  slf : mroIn K C (.ref C) = some true
  tyC : typeIn K (.ref C) = some (.type "type")
  fn : ∃ oc od osl, K.lookup fI = some ⟨oc, od, .func fd, osl⟩
  cell : ∃ cl cld csl, K.lookup cc = some ⟨cl, cld, .cell (some (.ref C)), csl⟩
  code : ∃ ccl cdd vs ccs file tf, K.lookup cda = some ⟨ccl, cdd, .fields vs, ccs⟩ ∧ vs[2]? = some (.str file tf) ∧ ((prog.main.file : Str) == file) = true
  opq : nsIn K cStatics "thirdparty.any" = some none
  par : ∃ ar, (fd.params.posonlyargs ++ fd.params.args).head? = some ar ∧ ar.arg = "self"
  hks : scope.names.lookup ("super" : Str) = some .globalImplicit
  hkc : scope.names.lookup ("__class__" : Str) = some .free
  hka : scope.names.lookup ("self" : Str) = some .local
  hk : scope.kind = .function
  htop : (prog.main.scope.names.lookup ("super" : Str)).isSome = false
theorem super_step {qual : Str} {scope : Scope} {fd : FuncData} (T : Err prog K C fI cc cda qual scope fd) {body : List Stmt} {p0 p1 p2 p3 p4 p5 : Pos} {k3 : Nat} {txt : Str} {m mb : Str → Option Value} {t0 : Addr} {Q : Flow → Shared → Prop}
    (X : K.In s.heap) (G : s.heap.Ns mainGlobals mg) (hm : mg "super" = none) (B : s.heap.Ns builtinsNs mb) (hb : mb "super" = some (.type "super")) (hn : s.heap.Ns L m) (hv : m "self" = some (.ref x)) (hx : s.heap.get? x = some (excO C t0))
    {pl : Sem Bool} (he : eval (.Call (.Attribute (.Call (.Name "super" p0) [] [] p1) "__init__" p2) [.Constant (.str txt) k3 p3] [] p4) (ksEnv qual scope L fI (.ref cda) cc) = (do
      let ov ← attributeBase (.Call (.Name "super" p0) [] [] p1) "__init__" (ksEnv qual scope L fI (.ref cda) cc) (eval (.Call (.Name "super" p0) [] [] p1) (ksEnv qual scope L fI (.ref cda) cc))
      standAt p2.atName
      let (f, first) ← holding [ov] (getMethod ov "__init__" pl)
      callWith p4 f first (backTo p4 (starEach [.Constant (.str txt) k3 p3] (ksEnv qual scope L fI (.ref cda) cc))) []))
    (hsw : swapsWith (.Call (.Attribute (.Call (.Name "super" p0) [] [] p1) "__init__" p2) [.Constant (.str txt) k3 p3] [] p4) none p5.line (ksEnv qual scope L fI (.ref cda) cc) = pure false)
    (h : ∀ h' t1 tk', (∀ b o, b ≠ x → s.heap.get? b = some o → h'.get? b = some o) → h'.get? x = some (excO C t1) → Q .next { s with heap := h', toks := tk' }) :
    wpAt (model prog w) A (.func body (ksEnv qual scope L fI (.ref cda) cc)) (exec (.Expr (.Call (.Attribute (.Call (.Name "super" p0) [] [] p1) "__init__" p2) [.Constant (.str txt) k3 p3] [] p4) p5) (ksEnv qual scope L fI (.ref cda) cc)) Q E s := by
  obtain ⟨nm, q, N, bs, bm, sn, sub, ab, col, dd, k0, k1, k2, k3', k5, hC, hbm, hal⟩ := T.cls
  obtain ⟨oc, od, osl, hf⟩ := T.fn
  obtain ⟨cl, cld, csl, hcell⟩ := T.cell
  obtain ⟨ccl, cdd, vs, ccs, file, tf, hcode, hvs, hfile⟩ := T.code
  obtain ⟨ar, hp, har⟩ := T.par
  have hcl : clsIn K C = some { name := nm, bases := bs, mro := .ref C :: bm, ns := N, qualname := q, hasDict := true, slotNames := sn, subclasses := sub, abstract := ab, collection := col, hasDel := false } := by unfold clsIn; rw [hC] <;> rfl
  obtain ⟨hh, g, d, t, os⟩ := s
  have hi : interactive (ksEnv qual scope L fI (.ref cda) cc) = false := by
    unfold interactive
    show (scope.kind == .module && _) = false
    rw [T.hk]
    rfl
  refine ks_wpAt_Expr_any (ks_wpAt_MethodCall ?_ he) hi hsw
  refine ks_wpAt_super_base (env := ksEnv qual scope L fI (.ref cda) cc) T.hks T.hkc (by decide) rfl (X _ _ hf) rfl hp rfl (X _ _ hcode) rfl hvs hfile T.htop ?_
  refine ks_loadName_global T.hk T.hks (loadGlobal_builtin (env := ksEnv qual scope L fI (.ref cda) cc) G hm B hb ⟨rfl, ?_⟩)
  refine wpAny_loadName_free T.hk T.hkc rfl ⟨_, X _ _ hcell, rfl⟩ ?_
  rw [har]
  refine wpAny_loadName_local T.hk T.hka hn hv ?_
  refine ks_wpAny_isType_cls (X _ _ hC) rfl ⟨rfl, ?_⟩
  refine ks_wpAny_call_super (X _ _ hC) rfl hx rfl (fun c e => ?_) (looks_mroIn X T.slf) (fun h1 e1 k1' => ?_)
  · cases e
  have X1 : K.In h1 := X.keeps k1'
  have hx1 := k1' _ _ hx
  have hxC : x ≠ C := fun z => by
    have := X _ _ hC
    rw [← z, hx] at this
    cases this
  have I1 : InstAt h1 x (excO C t0) C none := ⟨hx1, rfl, rfl, trivial⟩
  have hI : Looks (model prog w) h1 (isInstance (.ref x) (.type "ValueError")) true := I1.type.andThen (looks_subIn X1 T.veC)
  refine kxs_getMethod kxs_ValueError e1 (looks_opaque X1 T.opq) (l₀ := .ref C :: bm) ?_ (l := bm) (by simp [List.dropWhile_cons]) X1 hal hI hxC (by decide) ?_
  · exact fun A Q E s k q => wpAny_bind ((looks_clsIn X1 hcl) A _ E s k (wpAny_pure q))
  have k2' : ∀ b o, h1.get? b = some o → (h1.push (kxs_mw "ValueError.__init__" x)).get? b = some o := fun b o e => Heap.get?_push_of_some _ e
  have hu : (h1.push (kxs_mw "ValueError.__init__" x)).get? h1.objs.size = some (kxs_mw "ValueError.__init__" x) := Heap.get?_push_size _ rfl
  have hx2 := k2' _ _ hx1
  show wpAny _ _ (callWith p4 (.ref h1.objs.size) [] ((false, eval (.Constant (.str txt) k3 p3) (ksEnv qual scope L fI (.ref cda) cc)) :: []) []) _ _ _
  refine kxs_callWith (i := "ValueError.__init__") (x := x) rfl (evalArgs_plain (spliced_cons (Constant_str (spliced_nil ⟨hu, ?_⟩))))
  show wpAny _ _ (call (.ref h1.objs.size) [.str txt (t + 1)]) _ _ _
  refine wpAny_call (codeAny_of_tree ?_)
  show wpAny _ A.in1 (callAny (.ref h1.objs.size) ⟨[.str txt (t + 1)], []⟩) _ _ _
  simp only [callAny]
  refine wpAny_bind (wpAny_load hu ?_)
  simp only [kxs_mw, show (Value.type "method-wrapper" == Value.type "method" || Value.type "method-wrapper" == Value.type "builtin_function_or_method" || Value.type "method-wrapper" == Value.type "method-wrapper") = true by decide, if_true]
  refine KFB.if_so (by decide) ?_
  refine wpAny_bind (check_bound_init F.excBase_ValueError.toExcCallFacts (X1.keeps k2' _ _ hC) hx2 rfl ?_)
  refine wpAny_bind (wpAny_pure (wpAny_pure ?_))
  refine ⟨plainId_quiet F.excBase_ValueError.init.plain _, codeAny_builtin F.excBase_ValueError.initEntry ?_⟩
  rw [Around.under_plainId F.excBase_ValueError.init.plain _]
  wp_walk
  refine h _ (h1.push (kxs_mw "ValueError.__init__" x)).objs.size _ (fun b o hb ho => ?_) ?_
  · rw [Heap.get?_update_other _ _ (Ne.symm hb)]
    exact Heap.get?_push_of_some _ (k2' _ _ (k1' _ _ ho))
  · rw [Heap.get?_update_self _ (Heap.get?_push_of_some _ hx2) rfl]
    rfl
/-- the text of an own __init__ that keeps what it is given under its parameters' names -/
abbrev supS (p0 p1 p2 p3 p4 p5 : Pos) (k3 : Nat) (txt : Str) : Stmt := .Expr (.Call (.Attribute (.Call (.Name "super" p0) [] [] p1) "__init__" p2) [.Constant (.str txt) k3 p3] [] p4) p5
abbrev asgS (par : Str) (q1 q2 q3 q4 : Pos) : Stmt := .Assign [.Attribute (.Name "self" q1) par q2] (.Name par q3) q4
structure SupT (env : Env) (p0 p1 p2 p3 p4 p5 : Pos) (k3 : Nat) (txt : Str) : Prop where
  he : ∃ pl : Sem Bool, eval (.Call (.Attribute (.Call (.Name "super" p0) [] [] p1) "__init__" p2) [.Constant (.str txt) k3 p3] [] p4) env = (do
      let ov ← attributeBase (.Call (.Name "super" p0) [] [] p1) "__init__" env (eval (.Call (.Name "super" p0) [] [] p1) env)
      standAt p2.atName
      let (f, first) ← holding [ov] (getMethod ov "__init__" pl)
      callWith p4 f first (backTo p4 (starEach [.Constant (.str txt) k3 p3] env)) [])
  hsw : swapsWith (.Call (.Attribute (.Call (.Name "super" p0) [] [] p1) "__init__" p2) [.Constant (.str txt) k3 p3] [] p4) none p5.line env = pure false
/-- what __init__ leaves of a fresh error at x -/
structure InitEnd (h h' : Heap) (x C dx t1 : Addr) (m : Str → Option Value) : Prop where
  keep : ∀ b o, b ≠ x → h.get? b = some o → h'.get? b = some o
  obj : h'.get? x = some { cls := .ref C, dict := some dx, data := .fields #[.ref t1, .none, .none, .none, .bool false, .none] }
  dbig : h.objs.size ≤ dx
  dne : dx ≠ x
  ns : h'.Ns1 dx m
theorem ldS {M : Model} {s : Shared} {name : Str} {scope : Scope} {L a : Addr} {cd : Value} {m : Str → Option Value} {x : Str} {pos : Pos} {v : Value} {Q : Value → Shared → Prop} {A : Around} {E : Value → Shared → Prop} (hn : s.heap.Ns L m) (hv : m x = some v) (h : Q v s)
    (hk : scope.kind = .function) (hl : scope.names.lookup x = some .local) (hd : (x == ("__debug__" : Str)) = false) :
    wpAny M A (eval (.Name x pos) (ksEnv name scope L a cd cc)) Q E s := wpAny_Name (wpAny_loadName_local (env := ksEnv name scope L a cd cc) hk hl hn hv h) hd
theorem kept_but {K : Frag} {h h' : Heap} {x : Addr} (X : K.In h) (hx : K.lookup x = none) (k : ∀ b o, b ≠ x → h.get? b = some o → h'.get? b = some o) : K.In h' := fun a o e =>
  k a o (fun z => by rw [z, hx] at e; cases e) (X a o e)
theorem err_init1 {R : Result → Shared → Prop} {args : Args} {qual : Str} {params : Arguments} {body : List Stmt} {scope : Scope} {kV doc pm ct : Value} {an : Option Addr} {par : Str} (T : Err prog K C fI cc cda qual scope (ksFn "__init__" qual params body scope .none kV doc pm an (.ref cda) ct cc))
    {p0 p1 p2 p3 p4 p5 q1 q2 q3 q4 : Pos} {k3 : Nat} {txt : Str} (hbody : body = [supS p0 p1 p2 p3 p4 p5 k3 txt, asgS par q1 q2 q3 q4]) (hS : ∀ L, SupT (ksEnv qual scope L fI (.ref cda) cc) p0 p1 p2 p3 p4 p5 k3 txt)
    (hsw : ∀ L, swapsWith (.Name par q3) (some (.Attribute (.Name "self" q1) par q2)) q4.line (ksEnv qual scope L fI (.ref cda) cc) = pure false)
    (hcd : codeIn K (.ref cda) qual = true) (hpar : scope.names.lookup par = some .local) (hne : par ≠ "self") (hdbg : (par == ("__debug__" : Str)) = false) (hcell : ∀ x ∈ scope.names, x.2 ≠ .cell) (hco : scope.isCoroutine = false) (hgen : scope.isGenerator = false)
    (hno : findIn K (.ref C) par = some none) {x t0 : Addr} {v : Value} {mb : Str → Option Value} (X : K.In s.heap) (hlim : s.heap.NoLimit) (G : s.heap.Ns mainGlobals mg) (hm : mg "super" = none) (B : s.heap.Ns builtinsNs mb) (hb : mb "super" = some (.type "super"))
    (hx : s.heap.get? x = some (excO C t0)) (hnx : K.lookup x = none) (hroom : A.depth < recursionLimit)
    (hbind : BindsTo s (ksFn "__init__" qual params body scope .none kV doc pm an (.ref cda) ct cc) args [("self", .ref x), (par, v)])
    (hq : ∀ h' tk dx t1, InitEnd s.heap h' x C dx t1 (fun y => if y = par then some v else none) → R (.ok (.ret .none)) { s with heap := h', toks := tk }) :
    codeAny (model prog w) A (.call (.ref fI) args) R s := by
  obtain ⟨nm, q, N, bs, bm, sn, sub, ab, col, dd, k0, k1, k2, k3', k5, hC, hbm, hal⟩ := T.cls
  obtain ⟨oc, od, osl, hf⟩ := T.fn
  have hcl : clsIn K C = some { name := nm, bases := bs, mro := .ref C :: bm, ns := N, qualname := q, hasDict := true, slotNames := sn, subclasses := sub, abstract := ab, collection := col, hasDel := false } := by unfold clsIn; rw [hC] <;> rfl
  have hxL : s.heap.objs.size ≠ x := Nat.ne_of_gt (Heap.lt_size hx)
  refine ks_codeAny_call_defAt (body := body) (X _ _ hf |> fun z => hroom) (X _ _ hf) rfl hlim (codeRec_of X hcd) rfl hbind hcell ?_ (fun h₁ hns hk₁ => ?_) hco hgen T.hk
  · intro y hy
    rcases List.mem_cons.mp hy with rfl | hy
    · exact T.hka
    · rw [List.mem_singleton] at hy
      rw [hy]
      exact hpar
  · have X₁ : K.In h₁ := X.keeps hk₁
    subst hbody
    obtain ⟨pl, he⟩ := (hS s.heap.objs.size).he
    have e1 : (("self" : Str) == par) = false := beq_false_of_ne (Ne.symm hne)
    have l1 : ([("self", Value.ref x), (par, v)] : List (Str × Value)).reverse.lookup ("self" : Str) = some (Value.ref x) := by
      show List.lookup ("self" : Str) [(par, v), ("self", Value.ref x)] = _
      rw [List.lookup_cons, e1, List.lookup_cons, beq_self_eq_true]
    have l2 : ([("self", Value.ref x), (par, v)] : List (Str × Value)).reverse.lookup par = some v := by
      show List.lookup par [(par, v), ("self", Value.ref x)] = _
      rw [List.lookup_cons, beq_self_eq_true]
    refine ks_wpAt_execs_cons (super_step (s := { s with heap := h₁, toks := _ }) T X₁ (G.keeps hk₁) hm (B.keeps hk₁) hb hns l1 (hk₁ _ _ hx) he (hS _).hsw fun h₂ t1 tk₂ k₂ hx₂ => ?_)
    obtain ⟨m2, l1', l2', hn₂⟩ : ∃ m2 : Str → Option Value, m2 "self" = some (.ref x) ∧ m2 par = some v ∧ h₂.Ns s.heap.objs.size m2 := ⟨_, l1, l2, hns.at fun o q => k₂ _ _ hxL q⟩
    have X₂ : K.In h₂ := kept_but X₁ hnx k₂
    refine ks_wpAt_execs_cons (ks_wpAt_Assign_Attr ?_ (hsw _))
    refine wpAt_of_wpAny (ldS (s := { s with heap := h₂, toks := tk₂ }) hn₂ l2' ?_ T.hk hpar hdbg)
    refine ldS (s := { s with heap := h₂, toks := tk₂ }) hn₂ l1' ?_ T.hk T.hka (by decide)
    refine set_plain X₂ (ox := excO C t1) (od := none) ⟨hx₂, rfl, rfl, trivial⟩ T.sa ?_
    refine exc_osa X₂ hx₂ hcl (show refsVE (.ref C :: bm) = true from hbm) rfl hno (fun h₃ tk₃ dx k₃ dn dne hx₃ hn₃ => ?_)
    exact wpAt_of_wpAny (wpAny_execs_nil (hq h₃ tk₃ dx t1 ⟨fun b o hb e => k₃ b o hb (k₂ b o hb (hk₁ b o e)), hx₃, Nat.le_of_lt (Nat.lt_of_lt_of_le hn₂.lt dn), dne, hn₃⟩))
theorem err_init2 {R : Result → Shared → Prop} {args : Args} {qual : Str} {params : Arguments} {body : List Stmt} {scope : Scope} {kV doc pm ct : Value} {an : Option Addr} {par par2 : Str} (T : Err prog K C fI cc cda qual scope (ksFn "__init__" qual params body scope .none kV doc pm an (.ref cda) ct cc))
    {p0 p1 p2 p3 p4 p5 q1 q2 q3 q4 r1 r2 r3 r4 : Pos} {k3 : Nat} {txt : Str} (hbody : body = [supS p0 p1 p2 p3 p4 p5 k3 txt, asgS par q1 q2 q3 q4, asgS par2 r1 r2 r3 r4]) (hS : ∀ L, SupT (ksEnv qual scope L fI (.ref cda) cc) p0 p1 p2 p3 p4 p5 k3 txt)
    (hsw : ∀ L, swapsWith (.Name par q3) (some (.Attribute (.Name "self" q1) par q2)) q4.line (ksEnv qual scope L fI (.ref cda) cc) = pure false) (hsw2 : ∀ L, swapsWith (.Name par2 r3) (some (.Attribute (.Name "self" r1) par2 r2)) r4.line (ksEnv qual scope L fI (.ref cda) cc) = pure false)
    (hcd : codeIn K (.ref cda) qual = true) (hpar : scope.names.lookup par = some .local) (hpar2 : scope.names.lookup par2 = some .local) (hne : par ≠ "self") (hne2 : par2 ≠ "self") (hne3 : par ≠ par2) (hdbg2 : (par2 == ("__debug__" : Str)) = false) (hdbg : (par == ("__debug__" : Str)) = false) (hcell : ∀ x ∈ scope.names, x.2 ≠ .cell) (hco : scope.isCoroutine = false) (hgen : scope.isGenerator = false)
    (hno : findIn K (.ref C) par = some none) (hno2 : findIn K (.ref C) par2 = some none) {x t0 : Addr} {v v2 : Value} {mb : Str → Option Value} (X : K.In s.heap) (hlim : s.heap.NoLimit) (G : s.heap.Ns mainGlobals mg) (hm : mg "super" = none) (B : s.heap.Ns builtinsNs mb) (hb : mb "super" = some (.type "super"))
    (hx : s.heap.get? x = some (excO C t0)) (hnx : K.lookup x = none) (hroom : A.depth < recursionLimit)
    (hbind : BindsTo s (ksFn "__init__" qual params body scope .none kV doc pm an (.ref cda) ct cc) args [("self", .ref x), (par, v), (par2, v2)])
    (hq : ∀ h' tk dx t1, InitEnd s.heap h' x C dx t1 (fun y => if y = par2 then some v2 else if y = par then some v else none) → R (.ok (.ret .none)) { s with heap := h', toks := tk }) :
    codeAny (model prog w) A (.call (.ref fI) args) R s := by
  obtain ⟨nm, q, N, bs, bm, sn, sub, ab, col, dd, k0, k1, k2, k3', k5, hC, hbm, hal⟩ := T.cls
  obtain ⟨oc, od, osl, hf⟩ := T.fn
  have hcl : clsIn K C = some { name := nm, bases := bs, mro := .ref C :: bm, ns := N, qualname := q, hasDict := true, slotNames := sn, subclasses := sub, abstract := ab, collection := col, hasDel := false } := by unfold clsIn; rw [hC] <;> rfl
  have hxL : s.heap.objs.size ≠ x := Nat.ne_of_gt (Heap.lt_size hx)
  refine ks_codeAny_call_defAt (body := body) (X _ _ hf |> fun z => hroom) (X _ _ hf) rfl hlim (codeRec_of X hcd) rfl hbind hcell ?_ (fun h₁ hns hk₁ => ?_) hco hgen T.hk
  · intro y hy
    rcases List.mem_cons.mp hy with rfl | hy
    · exact T.hka
    · rcases List.mem_cons.mp hy with rfl | hy
      · exact hpar
      · rw [List.mem_singleton] at hy
        rw [hy]
        exact hpar2
  · have X₁ : K.In h₁ := X.keeps hk₁
    subst hbody
    obtain ⟨pl, he⟩ := (hS s.heap.objs.size).he
    have e1 : (("self" : Str) == par) = false := beq_false_of_ne (Ne.symm hne)
    have e2 : (("self" : Str) == par2) = false := beq_false_of_ne (Ne.symm hne2)
    have e3 : (par == par2) = false := beq_false_of_ne hne3
    have l1 : ([("self", Value.ref x), (par, v), (par2, v2)] : List (Str × Value)).reverse.lookup ("self" : Str) = some (Value.ref x) := by
      show List.lookup ("self" : Str) [(par2, v2), (par, v), ("self", Value.ref x)] = _
      rw [List.lookup_cons, e2, List.lookup_cons, e1, List.lookup_cons, beq_self_eq_true]
    have l2 : ([("self", Value.ref x), (par, v), (par2, v2)] : List (Str × Value)).reverse.lookup par = some v := by
      show List.lookup par [(par2, v2), (par, v), ("self", Value.ref x)] = _
      rw [List.lookup_cons, e3, List.lookup_cons, beq_self_eq_true]
    have l3 : ([("self", Value.ref x), (par, v), (par2, v2)] : List (Str × Value)).reverse.lookup par2 = some v2 := by
      show List.lookup par2 [(par2, v2), (par, v), ("self", Value.ref x)] = _
      rw [List.lookup_cons, beq_self_eq_true]
    refine ks_wpAt_execs_cons (super_step (s := { s with heap := h₁, toks := _ }) T X₁ (G.keeps hk₁) hm (B.keeps hk₁) hb hns l1 (hk₁ _ _ hx) he (hS _).hsw fun h₂ t1 tk₂ k₂ hx₂ => ?_)
    obtain ⟨m2, l1', l2', l3', hn₂⟩ : ∃ m2 : Str → Option Value, m2 "self" = some (.ref x) ∧ m2 par = some v ∧ m2 par2 = some v2 ∧ h₂.Ns s.heap.objs.size m2 := ⟨_, l1, l2, l3, hns.at fun o q => k₂ _ _ hxL q⟩
    have X₂ : K.In h₂ := kept_but X₁ hnx k₂
    refine ks_wpAt_execs_cons (ks_wpAt_Assign_Attr ?_ (hsw _))
    refine wpAt_of_wpAny (ldS (s := { s with heap := h₂, toks := tk₂ }) hn₂ l2' ?_ T.hk hpar hdbg)
    refine ldS (s := { s with heap := h₂, toks := tk₂ }) hn₂ l1' ?_ T.hk T.hka (by decide)
    refine set_plain X₂ (ox := excO C t1) (od := none) ⟨hx₂, rfl, rfl, trivial⟩ T.sa ?_
    refine exc_osa X₂ hx₂ hcl (show refsVE (.ref C :: bm) = true from hbm) rfl hno (fun h₃ tk₃ dx k₃ dn dne hx₃ hn₃ => ?_)
    have hn₃' : h₃.Ns s.heap.objs.size m2 := hn₂.at fun o q => k₃ _ _ hxL q
    have X₃ : K.In h₃ := kept_but X₂ hnx k₃
    have dL : dx ≠ s.heap.objs.size := Nat.ne_of_gt (Nat.lt_of_lt_of_le hn₂.lt dn)
    refine ks_wpAt_execs_cons (ks_wpAt_Assign_Attr ?_ (hsw2 _))
    refine wpAt_of_wpAny (ldS (s := { s with heap := h₃, toks := tk₃ }) hn₃' l3' ?_ T.hk hpar2 hdbg2)
    refine ldS (s := { s with heap := h₃, toks := tk₃ }) hn₃' l1' ?_ T.hk T.hka (by decide)
    obtain ⟨od, hod, _⟩ := L2.lookIn_ns hn₃
    refine set_plain X₃ (ox := { cls := .ref C, dict := some dx, data := .fields #[.ref t1, .none, .none, .none, .bool false, .none] }) (od := some od) ⟨hx₃, rfl, rfl, hod⟩ T.sa ?_
    refine OEX.osa_old (nl := [par]) X₃ hx₃ hn₃ (fun y hy => by
      by_cases e : y = par
      · rw [e]
        exact List.mem_singleton_self _
      · exact absurd (if_neg e) hy) (show 1 ≤ 1000 by decide) hcl (show refsVE (.ref C :: bm) = true from hbm) rfl hno2 (fun h₄ tk₄ k₄ hn₄ => ?_)
    exact wpAt_of_wpAny (wpAny_execs_nil (hq h₄ tk₄ dx t1 ⟨fun b o hb e => k₄ b o (fun z => by
      have := Heap.lt_size e
      rw [z] at this
      exact absurd (Nat.lt_of_lt_of_le this (Nat.le_of_lt (Nat.lt_of_lt_of_le hn₂.lt dn))) (Nat.lt_irrefl _)) (k₃ b o hb (k₂ b o hb (hk₁ b o e))), k₄ _ _ dne.symm hx₃, Nat.le_of_lt (Nat.lt_of_lt_of_le hn₂.lt dn), dne, hn₄⟩))
/-- a made error: its dict at d -/
structure OwnMade (h h' : Heap) (e C d : Addr) (m : Str → Option Value) : Prop where
  keep : ∀ b o, h.get? b = some o → h'.get? b = some o
  new : h.objs.size ≤ e
  obj : ∃ t1 : Addr, h'.get? e = some { cls := .ref C, dict := some d, data := .fields #[.ref t1, .none, .none, .none, .bool false, .none] }
  dbig : h.objs.size ≤ d
  dne : d ≠ e
  ns : h'.Ns1 d m
/-- what the __init__ at fI does of a fresh error of the class at C, given us -/
def InitOk (prog : Program) (w : World) (K : Frag) (mg : Str → Option Value) (C fI : Addr) (us : List Value) (m : Str → Option Value) : Prop :=
  ∀ (A : Around) (R : Result → Shared → Prop) (s : Shared) (x t0 : Addr) (mb : Str → Option Value), K.In s.heap → s.heap.NoLimit → s.heap.Ns mainGlobals mg → s.heap.Ns builtinsNs mb → mb "super" = some (.type "super") → s.heap.get? x = some (excO C t0) → K.lookup x = none → A.depth < recursionLimit →
    (∀ h' tk dx t1, InitEnd s.heap h' x C dx t1 m → R (.ok (.ret .none)) { s with heap := h', toks := tk }) → codeAny (model prog w) A (.call (.ref fI) ⟨.ref x :: us, []⟩) R s
theorem err_made {R : Result → Shared → Prop} {qual : Str} {scope : Scope} {fd : FuncData} (T : Err prog K C fI cc cda qual scope fd) {us : List Value} {m mb : Str → Option Value} (hI : InitOk prog w K mg C fI us m) (hl : us.length ≤ sizeLine) (X : K.In s.heap) (hlim : s.heap.NoLimit) (G : s.heap.Ns mainGlobals mg) (B : s.heap.Ns builtinsNs mb) (hb : mb "super" = some (.type "super")) (hroom : A.depth + 1 < recursionLimit)
    (hq : ∀ h' tk e d, OwnMade s.heap h' e C d m → R (.ok (.ret (.ref e))) { s with heap := h', toks := tk }) :
    codeAny (model prog w) A (.call (.ref C) ⟨us, []⟩) R s := by
  obtain ⟨nm, q, N, bs, bm, sn, sub, ab, col, dd, k0, k1, k2, k3, k5, hC, hbm, hal⟩ := T.cls
  obtain ⟨hp, g, dr, tk, os⟩ := s
  have k : ∀ b o, hp.get? b = some o → ((hp.push (kdv_tup us)).push (excO C hp.objs.size)).get? b = some o := fun b o e => Heap.get?_push_of_some _ (Heap.get?_push_of_some _ e)
  have hget : ((hp.push (kdv_tup us)).push (excO C hp.objs.size)).get? (hp.objs.size + 1) = some (excO C hp.objs.size) := by heap_get
  have hnx : K.lookup (hp.objs.size + 1) = none := by
    cases e : K.lookup (hp.objs.size + 1) with
    | none => rfl
    | some o =>
      have z : hp.get? (hp.objs.size + 1) = some o := X _ _ e
      exact absurd (Nat.lt_of_succ_lt (Heap.lt_size z)) (Nat.lt_irrefl _)
  refine call_own F.excBase_ValueError (fun X => refsVE_contains X bm hbm) (X _ _ hC) (looks_findIn X T.iC) (fun self => bind_fn X self T.tC) hl ?_
  refine hI _ _ ⟨(hp.push (kdv_tup us)).push (excO C hp.objs.size), g, dr, tk, os⟩ (hp.objs.size + 1) hp.objs.size mb (X.keeps k) (hlim.keeps k) (G.keeps k) (B.keeps k) hb hget hnx ?_ fun h' tk' dx t1 ⟨k', hx, dn, dne, hns⟩ => ?_
  · show A.depth + 1 < recursionLimit
    exact hroom
  · have old : ∀ b o, hp.get? b = some o → h'.get? b = some o := fun b o e => k' b o (Nat.ne_of_lt (Nat.lt_succ_of_lt (Heap.lt_size e))) (k b o e)
    have z : hp.objs.size + 1 + 1 ≤ dx := by
      first
        | (simpa only [Heap.size_push] using dn)
        | exact dn
        | (have q := dn; rw [Heap.size_push, Heap.size_push] at q; exact q)
    exact ⟨rfl, hq h' tk' (hp.objs.size + 1) dx ⟨old, Nat.le_succ _, ⟨_, hx⟩, Nat.le_trans (Nat.le_trans (Nat.le_succ _) (Nat.le_succ _)) z, dne, hns⟩⟩
end
end ErrX
end PySem
namespace Kq
open PySem PySem.Spec PyProof.Rows L2
/-- an own error of the name x: it takes n arguments, and keeps fl of them -/
structure ErrK (P : Program) (w : World) (K : PySem.W.Frag) (mg : Str → Option Value) (x : Str) (C : Addr) (n : Nat) (fl : List V → List (Str × V)) : Prop where
  gC : mg x = some (.ref C)
  small : n ≤ 100
  ex : ∃ fI cc cda qual scope fd, ErrX.Err P K C fI cc cda qual scope fd ∧ ∀ vs us, Vals vs us → vs.length = n → ∃ m, ErrX.InitOk P w K mg C fI us m ∧ ∀ f, RelO ((fl vs).lookup f) (m f)
/-- C(e, ..) -/
def tMkErr (C : Addr) (n : Nat) (fl : List V → List (Str × V)) (ta : TA) : L2.St → Hp → XK → Prop := fun σ H Q => ta σ H fun vs H1 => vs.length = n ∧ ∀ d, H1 d = none → Q (.ref C) (some d) (upd H1 d (.xd (fl vs)))
section
variable {X : Cx} {C : Addr}
theorem pmk_err {x : Str} {n : Nat} {fl : List V → List (Str × V)} {a : Expr} {es : List Expr} {ta : TA} {p pos : Pos} {k : Nat} (T : ErrK X.prog X.w X.K X.mg x C n fl) (hr : Room k X.A) (ha : PA X (a :: es) ta) (hg : Gl X x := by rfl) (hdb : (x == ("__debug__" : Str)) = false := by decide)
    (he : starEach (a :: es) X.env = (false, eval a X.env) :: starEach es X.env := by rfl) (hpl : (backTo pos (starEach es X.env)).any (·.1) = false := by rfl) :
    PMk X (.Call (.Name x p) (a :: es) [] pos) (tMkErr C n fl ta) := by
  intro pins s σ H Q I h
  obtain ⟨fI, cc, cda, qual, scope, fd, E, hI⟩ := T.ex
  refine wpAny_Call_Name_kw (ld_glob I hg T.gC ?_ hdb)
  refine PySem.W.callWith_K (h₀ := X.base) I.ok.mod.kin E.kC (thn (ha.run pos pins s σ H _ I h) fun us s1 hh => ?_) he hpl
  obtain ⟨vs, H1, I1, r1, hn, q1⟩ := hh
  refine ⟨I1.kIn, ?_⟩
  obtain ⟨m, hm, hrel⟩ := hI vs us r1 hn
  show wpAny _ _ (call (.ref C) us) _ _ _
  have hlim := I1.nolimit
  have hl : us.length ≤ sizeLine := by
    have := T.small
    rw [← Paired.length r1, hn, sizeLine_eq]
    omega
  obtain ⟨mb, hb1, hb2⟩ := I1.mod.blt
  have G := I1.mod.glob.keeps I1.bk
  have B := hb1.keeps I1.bk
  obtain ⟨hp, g, dr, tk, os⟩ := s1
  refine wpAny_call (ErrX.err_made E hm hl I1.kIn hlim G B ((hb2 _ (by decide)).trans (by first | rfl | kernel_rfl)) (by have := hr.dp; omega) fun h' tk' e d M => ?_)
  show MkP X pins σ Q (.ref e) ⟨h', g, dr, tk', os⟩
  obtain ⟨t1, hoe⟩ := M.obj
  have hns := M.ns
  obtain ⟨G', g1, g2⟩ := restrict h' fun b => decide (b ≠ e)
  have gk : ∀ b, b ≠ e → G'.get? b = h'.get? b := fun b hb => g1 b (decide_eq_true hb)
  have ge : G'.get? e = none := g2 e (by simp)
  have old : ∀ b o, hp.get? b = some o → G'.get? b = some o := fun b o q => (gk b (Nat.ne_of_lt (Nat.lt_of_lt_of_le (Heap.lt_size q) M.new))).trans (M.keep b o q)
  have ob : ObjOk X.prog X.w (upd H1 d (.xd (fl vs))) G' d (.xd (fl vs)) := ⟨_, hns.at (fun o q => (gk d M.dne).trans q), hrel⟩
  have J : Inv X pins σ (upd H1 d (.xd (fl vs))) ⟨G', g, dr, tk', os⟩ := I1.laid (t' := tk') old M.dbig ob
  refine ⟨e, _, _, ⟨G', g, dr, tk', os⟩, _, .ref C, some d, rfl, J, fun b o q => ?_, ge, hoe, ⟨rfl, rfl⟩, rfl, rfl, ?_, rfl, I1.bare, raises_own E.exC E.tyC, q1 d (I1.hok.fresh M.dbig)⟩
  · by_cases hb : b = e
    · have q' : G'.get? b = some o := q
      rw [hb, ge] at q'
      cases q'
    · exact (gk b hb).symm.trans q
  · rw [upd_ne (Ne.symm M.dne)]
    exact I1.hok.fresh M.new
/-- raise C(e, ..) -/
theorem ps_raiseErr {x : Str} {n : Nat} {fl : List V → List (Str × V)} {a : Expr} {es : List Expr} {ta : TA} {W : WX} {p pos pos2 : Pos} {k : Nat} (hc : X.calm = true) (T : ErrK X.prog X.w X.K X.mg x C n fl) (hr : Room k X.A) (tk : Takes X W) (ha : PA X (a :: es) ta) (hg : Gl X x := by rfl) (hdb : (x == ("__debug__" : Str)) = false := by decide)
    (he : starEach (a :: es) X.env = (false, eval a X.env) :: starEach es X.env := by rfl) (hpl : (backTo pos (starEach es X.env)).any (·.1) = false := by rfl) :
    PS X (.Raise (some (.Call (.Name x p) (a :: es) [] pos)) none pos2) (fun _ σ H => tMkErr C n fl ta σ H fun cls d H' => W cls d σ H') := ps_raise hc tk (pmk_err T hr ha hg hdb he hpl)
end
end Kq
/-! ## a caught error that is kept behind its suite -/
namespace Kq
open PySem PySem.Spec PyProof.Rows L2
/-- at a: an error of the class cls, its dict at d -/
def ExD (cls : Value) (d : Option Addr) (a : Addr) : HO := .ext fun h => ∃ (oe : Obj) (vs : Array Value), h.get? a = some oe ∧ Zc cls d oe ∧ oe.data = .fields vs
theorem exD_ok {P : Program} {w : World} {H : Hp} {h : Heap} {a : Addr} {cls : Value} {d : Option Addr} {oe : Obj} {vs : Array Value} (e : h.get? a = some oe) (z : Zc cls d oe) (dd : oe.data = .fields vs) : ObjOk P w H h a (ExD cls d a) :=
  ⟨⟨oe, vs, e, z, dd⟩, ⟨oe, e⟩, fun _ _ ⟨o, v, q, r⟩ k => ⟨o, v, k o q, r⟩⟩
section
variable {X : Cx} {pins : List (Addr × Obj)} {σ : L2.St} {H : Hp} {s sI s' : Shared} {a : Addr} {oe : Obj} {vs : Array Value} {cls : Value} {d : Option Addr} {B : Heap}
theorem sky_none {l : List Env} {L : Addr} {h : Heap} {Z : Obj → Prop} (sky : Sky B l a Z L h) : B.get? a = none := by
  rcases sky with z | z | z
  · exact z.2.1
  · exact z.2.1
  · exact z.2.1
theorem notIn (hs : X.stack = X.env :: X.outer) (nb : ∀ b o, sI.heap.get? b = some o → b ∉ frs X.stack → B.get? b = some o) (hB : B.get? a = none) (nf : a ∉ frs (X.env :: X.outer)) : sI.heap.get? a = none := by
  cases e : sI.heap.get? a with
  | none => rfl
  | some o =>
    have := nb a o e (by rw [hs]; exact nf)
    rw [hB] at this
    cases this
theorem fresh0 (hex : X.ex = []) (J : Inv X pins σ H sI) (n : sI.heap.get? a = none) : X.s_0.heap.get? a = none := by
  cases e : X.s_0.heap.get? a with
  | none => rfl
  | some o =>
    obtain ⟨o', e'⟩ := J.base.there a o e (by rw [hex]; simp)
    rw [n] at e'
    cases e'
theorem Inv.tracked (I : Inv X pins σ H s) (ha : s.heap.get? a = some oe) (hz : Zc cls d oe) (hd : oe.data = .fields vs) (na : H a = none) (nL : a ≠ X.env.locals) (f0 : X.s_0.heap.get? a = none) (np : ∀ p ∈ X.pn ++ pins, p.1 ≠ a) : Inv X pins σ (upd H a (ExD cls d a)) s := by
  refine ⟨I.ok, I.os, I.bare, ⟨I.base.keep, I.base.slot, fun b o q n x => ?_, I.base.there, fun b xs q => ?_, fun b o u q => ?_, fun b ps q => ?_⟩, I.loc, I.cell, ?_, fun y c q => ?_, fun p hp => ?_, ?_, I.len⟩
  · rw [upd_ne (fun z => by rw [z, f0] at q; cases q)]
    exact I.base.free b o q n x
  · have y := I.base.tups b xs q
    rw [upd_ne (fun z => by rw [z, na] at y; cases y)]
    exact y
  · have y := I.base.frzs b o u q
    rw [upd_ne (fun z => by rw [z, na] at y; cases y)]
    exact y
  · obtain ⟨more, y⟩ := I.base.tbls b ps q
    rw [upd_ne (fun z => by rw [z, na] at y; cases y)]
    exact ⟨more, y⟩
  · rw [upd_ne (Ne.symm nL)]
    exact I.free
  · have nc : c ≠ a := fun z => by
      obtain ⟨v, o, e, dd⟩ := I.cell y c q
      rw [z, ha] at e
      cases e
      rw [hd] at dd
      cases dd
    rw [upd_ne nc]
    exact I.freeC y c q
  · obtain ⟨h1, h2, h3⟩ := I.pin p hp
    rw [upd_ne (np p hp)]
    exact ⟨h1, h2, h3⟩
  · exact HOk.laidN I.hok (fun b u e => e) na (exD_ok ha hz hd)
end
/-- the fields of a tracked error: in its dict, or none at all -/
def XdOk (F : Hp) (d : Option Addr) (fs : List (Str × V)) : Prop := match d with
  | some p => F p = some (.xd fs)
  | none => fs = []
theorem XdOk.mono {F F' : Hp} {d : Option Addr} {fs : List (Str × V)} (h : XdOk F d fs) (e : ∀ b o, F b = some o → F' b = some o) : XdOk F' d fs := by
  cases d with
  | none => exact h
  | some p => exact e _ _ h
/-! ### what a tracked error is asked -/
section
variable {X : Cx} {pins : List (Addr × Obj)} {σ : L2.St} {H : Hp} {s : Shared} {a dd D : Addr} {fs : List (Str × V)}
theorem xinst (I : Inv X pins σ H s) (ha : H a = some (ExD (.ref D) (some dd) a)) (hd : H dd = some (.xd fs)) : ∃ (oe od : Obj) (mA : Str → Option Value), PySem.W.InstAt s.heap a oe D (some od) ∧ (∀ f, RelO (fs.lookup f) (mA f)) ∧ ∀ f, PySem.W.lookIn f od = some (mA f) := by
  have hx : ObjOk X.prog X.w H s.heap dd (.xd fs) := I.hok dd _ hd
  obtain ⟨mA, hns, hr⟩ := hx
  obtain ⟨od, ho, hl⟩ := lookIn_ns hns
  have hy : ObjOk X.prog X.w H s.heap a (ExD (.ref D) (some dd) a) := I.hok a _ ha
  obtain ⟨⟨oe, vs, e, z, dt⟩, _, _⟩ := hy
  exact ⟨oe, od, mA, ⟨e, z.1, by unfold PySem.W.notCls; rw [dt] <;> rfl, by rw [z.2]; exact ho⟩, hr, hl⟩
theorem xinst0 (I : Inv X pins σ H s) (ha : H a = some (ExD (.ref D) none a)) : ∃ oe : Obj, PySem.W.InstAt s.heap a oe D none := by
  have hy : ObjOk X.prog X.w H s.heap a (ExD (.ref D) none a) := I.hok a _ ha
  obtain ⟨⟨oe, vs, e, z, dt⟩, _, _⟩ := hy
  exact ⟨oe, ⟨e, z.1, by unfold PySem.W.notCls; rw [dt] <;> rfl, by rw [z.2]; trivial⟩⟩
/-- isinstance(e, C), e a tracked error of the class at D -/
def rIsX (K : PySem.W.Frag) : List V → Hp → VK → Prop := fun xs H Q => ∃ (a D : Addr) (dd : Option Addr) (fs : List (Str × V)) (c : V) (cv : Value) (b : Bool), xs = [.ref a, c] ∧ (∀ u, RelV c u → u = cv) ∧ H a = some (ExD (.ref D) dd a) ∧ XdOk H dd fs ∧ ExcC K D ∧ PySem.W.kitOne K (.ref D) cv = some b ∧ Q (.bl b) H
theorem call_isX {K : PySem.W.Frag} (hK : X.K = K := by rfl) : CallR X (.builtin "isinstance") (rIsX K) := by
  subst hK
  intro pins s σ H xs us Q I r h
  obtain ⟨a, D, dd, fs, c, cv, b, rfl, hcv, ha, hd, C, e, q⟩ := h
  cases r with
  | cons rx rr =>
    cases rr with
    | cons rt rr =>
      cases rr
      cases rx
      have ec := hcv _ rt
      subst ec
      have hcl : (PySem.W.clsIn X.K D).isSome = true := by
        obtain ⟨cd, hc, _⟩ := PySem.W.any_some C.hd
        rw [hc]
        rfl
      cases dd with
      | some dd =>
        obtain ⟨oe, od, mA, J, _⟩ := xinst I ha hd
        exact PySem.W.kia_one (PySem.W.kitx_exc (od := some od) hcl C.hg C.hk C.hs C.ha C.hn C.ht C.hm) I.kIn J e (fun z => nomatch z) fun tk => ⟨.bl b, H, I.kept (t' := tk) fun _ _ z => z, rfl, q⟩
      | none =>
        obtain ⟨oe, J⟩ := xinst0 I ha
        exact PySem.W.kia_one (PySem.W.kitx_exc (od := none) hcl C.hg C.hk C.hs C.ha C.hn C.ht C.hm) I.kIn J e (fun z => nomatch z) fun tk => ⟨.bl b, H, I.kept (t' := tk) fun _ _ z => z, rfl, q⟩
/-- e.n, e a tracked error that keeps n -/
def tXk (K : PySem.W.Frag) (n : Str) (te : TE) : TE := fun σ H Q => te σ H fun x H1 => ∃ (a dd D : Addr) (fs : List (Str × V)) (v : V), x = .ref a ∧ H1 a = some (ExD (.ref D) (some dd) a) ∧ H1 dd = some (.xd fs) ∧ XfC K D ∧ PySem.W.findIn K (.ref D) n = some none ∧ fs.lookup n = some v ∧ Q v H1
theorem pe_xk {K : PySem.W.Frag} {e : Expr} {te : TE} {pos : Pos} {n : Str} (he : PE X e te) (hK : X.K = K := by rfl) (hb : attributeBase e n X.env (eval e X.env) = eval e X.env := by rfl) : PE X (.Attribute e n pos) (tXk K n te) := by
  subst hK
  refine ⟨fun pins s σ H Q I h => ?_⟩
  refine attr_of hb (thn (he.run pins s σ H _ I h) fun u s1 hh => ?_)
  obtain ⟨x, H1, I1, rx, a, dd, D, fs, v, ex, ha, hd, T, hno, l, q⟩ := hh
  subst ex
  obtain rfl : u = Value.ref a := rx
  obtain ⟨oe, od, mA, J, hr, hl⟩ := xinst I1 ha hd
  obtain ⟨u, hu, ru⟩ := RelO.some_of (v := v) (o := mA n) (by rw [← l]; exact hr n)
  exact HandSPX.exc_get I1.kIn J T.ga T.gg T.exC (PySem.W.findObj_own T.hdC hno rfl (by rw [hl, hu])) (handed_of ru) ⟨v, H1, I1.tok _, ru, q⟩
end
end Kq
/-! ## the end of a law whose defs make lambdas: as own_walk, with tables of code objects -/
namespace Kq
open PySem PySem.Spec PyProof.Rows L2 LamX
/-- what is tracked at the start: the script, unless it is one of the module's own, and the tables -/
def HpT (K : PySem.W.Frag) (a : Addr) (us : List Value) (ns : List Int) (ts : List Addr) : Hp := fun b => if b ∈ ts then some (.tbl #[]) else HpS K a us ns b
section
variable {P : Program} {w : World} {K : PySem.W.Frag} {mg mb : Str → Option Value} {k : Nat} {fa a : Addr} {fd : FuncData} {x : Str} {sp : Sp} {s : Shared} {us : List Value} {ns : List Int} {cs : List (Addr × Addr)}
theorem HpT.at {ts : List Addr} {b : Addr} {u : HO} (e : HpT K a us ns ts b = some u) : (b ∈ ts ∧ u = .tbl #[]) ∨ (b ∉ ts ∧ HpS K a us ns b = some u) := by
  unfold HpT at e
  split at e
  · rename_i h
    cases e
    exact .inl ⟨h, rfl⟩
  · rename_i h
    exact .inr ⟨h, e⟩
theorem HpT.free {ts : List Addr} {b : Addr} (h : b = a → K.lookup a ≠ none) (n : b ∉ ts) : HpT K a us ns ts b = none := by
  unfold HpT
  rw [if_neg n]
  exact HpS.free h
theorem own_callT (KX : K.In s.heap) (hns : s.heap.Ns mainGlobals mg) (hb : s.heap.Ns builtinsNs mb) (hbb : ∀ x : Str, x ≠ "__name__" → mb x = bootBuiltins x) (hlim : s.heap.NoLimit) (hg : s.gens = #[])
    (hT : ∀ p ∈ cs, s.heap.get? p.2 = some { cls := .none, data := .fields #[] }) (nT : ∀ p ∈ cs, K.lookup p.2 = none) (C : ∀ p ∈ cs, PySem.W.CodeHd s.heap p.1 p.2)
    (hbm : ∃ (bm : Addr) (ob : Obj), mg "__builtins__" = some (.ref bm) ∧ bm ≠ builtinsNs ∧ s.heap.get? bm = some ob ∧ ob.cls = .type "module" ∧ ob.dict = some builtinsNs ∧ ob.data = .plain)
    (ha : s.heap.get? a = some (scriptO us)) (hi : IntsAre us ns) (hl : ns.length ≤ sizeLine) (hr : Room k callerA) (hsy : ∃ mm, s.heap.Ns sysModules mm)
    (F : ∀ base : Heap, K.In base → base.Ns mainGlobals mg → (∃ o, base.get? sysModules = some o) → (∀ p ∈ cs, TabB base mg p.1 p.2) → FnG P w K mg base CX0 k fa fd [x] sp) (hbind : ∀ (s : Shared) (u : Value), BindsTo s fd ⟨[u], []⟩ [(x, u)])
    (hsp : ∀ H : Hp, (∀ p ∈ cs, H p.2 = some (.tbl #[])) → SqL K H a (ns.map V.int) → sp [.ref a] H (fun v _ => v = .bl true) E0) :
    codeAny (model P w) callerA (.call (.ref fa) ⟨[.ref a], []⟩) (fun r s' => r = .ok (.ret (.bool true)) ∧ OldK s.heap s'.heap ∧ s'.os = s.os ∧ AllBare s'.gens) s := by
  have isT : ∀ b : Addr, b ∈ cs.map (·.2) → s.heap.get? b = some { cls := .none, data := .fields #[] } := fun b hb => by
    obtain ⟨p, hp, e⟩ := List.mem_map.mp hb
    rw [← e]
    exact hT p hp
  have aT : a ∉ cs.map (·.2) := fun z => by
    have q := (isT a z).symm.trans ha
    cases q
  have memT : ∀ p ∈ cs, p.2 ∈ cs.map (·.2) := fun p hp => List.mem_map.mpr ⟨p, hp, rfl⟩
  generalize hts : cs.map (·.2) = ts at isT aT memT
  have stays : ∀ {b : Addr} {o : Obj}, s.heap.get? b = some o → (b = a → K.lookup a ≠ none) → b ∉ ts → (hidT s.heap (HpT K a us ns ts)).get? b = some o := fun e n m => hidT_get e (HpT.free n m)
  have noD : ∀ {b : Addr} {o : Obj}, s.heap.get? b = some o → (∀ vs n, o.data ≠ .seq vs n) → o.data ≠ .fields #[] → (hidT s.heap (HpT K a us ns ts)).get? b = some o := fun {b o} e h1 h2 => stays e (by
    rintro rfl
    have := e.symm.trans ha
    cases this
    exact (h1 _ _ rfl).elim) fun z => by
      have := e.symm.trans (isT b z)
      cases this
      exact h2 rfl
  have names : ∀ {b : Addr} {m : Str → Option Value}, s.heap.Ns b m → (hidT s.heap (HpT K a us ns ts)).Ns b m := fun ⟨o, es, ep, e, d, r⟩ => ⟨o, es, ep, noD e (fun vs n z => by rw [d] at z; cases z) (fun z => by rw [d] at z; cases z), d, r⟩
  have kin : K.In (hidT s.heap (HpT K a us ns ts)) := fun b o e => stays (KX b o e) (by
    rintro rfl z
    rw [e] at z
    cases z) fun z => by
      rw [← hts] at z
      obtain ⟨p, hp, ep⟩ := List.mem_map.mp z
      rw [← ep, nT p hp] at e
      cases e
  have TB : ∀ p ∈ cs, TabB (hidT s.heap (HpT K a us ns ts)) mg p.1 p.2 := fun p hp => by
    have hTp := hT p hp
    refine ⟨?_, ?_, fun z => ?_⟩
    · obtain ⟨o, us, file, tf, flags, tg, inF, text, tt, e1, r1, r2, r3, rest⟩ := C p hp
      refine ⟨o, us, file, tf, flags, tg, inF, text, tt, noD e1 (fun vs n z => ?_) (fun z => ?_), r1, r2, r3, rest⟩
      · rw [r2] at z
        cases z
      · rw [r2] at z
        cases z
        simp at r3
    · obtain ⟨bm, ob, b1, b2, b3, b4, b5, b6⟩ := hbm
      have nG : bm ≠ mainGlobals := fun q => by
        obtain ⟨o, es, ep, e, hd, _⟩ := hns
        rw [q, e] at b3
        cases b3
        rw [hd] at b6
        cases b6
      have nP : bm ≠ p.2 := fun q => by
        rw [q, hTp] at b3
        cases b3
        cases b6
      exact ⟨bm, ob, b1, b2, nG, nP, noD b3 (fun vs n z => by rw [b6] at z; cases z) (fun z => by rw [b6] at z; cases z), b4, b5, b6⟩
    · obtain ⟨o, es, ep, e, hd, _⟩ := hns
      rw [z, hTp] at e
      cases e
      cases hd
  have hH : ∀ p ∈ cs, HpT K a us ns ts p.2 = some (.tbl #[]) := fun p hp => if_pos (memT p hp)
  have hok : HOk P w (HpT K a us ns ts) s.heap := fun b u e => by
    rcases HpT.at e with ⟨h, rfl⟩ | ⟨_, h⟩
    · exact isT b h
    · obtain ⟨rfl, _, rfl⟩ := HpS.at h
      exact ⟨ha, by rw [List.length_map]; exact hl, us, _, vals_ints hi, ha⟩
  have sq : SqL K (HpT K a us ns ts) a (ns.map V.int) := by
    have e : HpT K a us ns ts a = HpS K a us ns a := if_neg aT
    rcases HpS.sq KX ha hi hl with (h | ⟨o, h⟩) | h
    · exact .inl (.inl (e.trans h))
    · exact .inl (.inr ⟨o, e.trans h⟩)
    · exact .inr h
  obtain ⟨mc, c1, c2⟩ := hlim
  have env : Env0 P w K mg (hidT s.heap (HpT K a us ns ts)) callerA [] s (HpT K a us ns ts) :=
    { frames := rfl, mod := ⟨kin, names hns, ⟨mb, names hb, hbb⟩, ⟨mc, names c1, c2⟩⟩, bs := fun _ _ e => of_hidT e, bsz := Nat.le_of_eq (hidT_size _ _), funs := trivial, frf := fun b hb => (nomatch (show b ∈ ([] : List Addr) from hb)), hok := hok, bare := .of_eq hg }
  have run := (F _ kin (names hns) (let ⟨_, h⟩ := hsy; let ⟨o, _, _, e, _⟩ := names h; ⟨o, e⟩) TB).run callerA [] s _ ⟨[.ref a], []⟩ [.ref a] [.ref a] _ _ rfl hr env (hbind s (.ref a)) (.cons rfl .nil) (hsp _ hH sq)
  refine codeAny_mono run fun r s' h => ?_
  match r, h with
  | .error e, h => exact h.elim
  | .ok (.ret u), ⟨v, H', h1, h2, un, ok', rv, q⟩ =>
    have q' : v = .bl true := q
    subst q'
    cases (show u = Value.bool true from rv)
    have key : ∀ b o, b ∉ ts → s.heap.get? b = some o → s'.heap.get? b = some o := fun b o nb e => by
      cases t : HpT K a us ns ts b with
      | none => exact un.keep b o e t (fun z => nomatch (show b ∈ ([] : List Addr) from z)) (by simp)
      | some u =>
        rcases HpT.at t with ⟨z, _⟩ | ⟨_, z⟩
        · exact absurd z nb
        · obtain ⟨rfl, _, rfl⟩ := HpS.at z
          have := e.symm.trans ha
          cases this
          exact (ok' _ _ (un.frzs _ _ _ t)).1
    have grown : ∀ p ∈ cs, ∃ more : Array Value, s'.heap.get? p.2 = some { cls := .none, data := .fields more } := fun p hp => by
      obtain ⟨more, z⟩ := un.tbls p.2 #[] (hH p hp)
      exact ⟨_, ok' p.2 _ z⟩
    refine ⟨rfl, ⟨fun b o e => ?_, fun b o e => ?_⟩, h1, h2⟩
    · by_cases hb : b ∈ ts
      · rw [← hts] at hb
        obtain ⟨p, hp, ep⟩ := List.mem_map.mp hb
        obtain ⟨more, hm⟩ := grown p hp
        rw [← ep] at e ⊢
        rw [hT p hp] at e
        cases e
        exact .inr (.inl ⟨((C p hp).tab (hT p hp)).isCodeTable, rfl, #[], more, rfl, by rw [Array.empty_append]; exact hm⟩)
      · exact .inl (key b o hb e)
    · by_cases hb : b ∈ ts
      · rw [← hts] at hb
        obtain ⟨p, hp, ep⟩ := List.mem_map.mp hb
        obtain ⟨more, hm⟩ := grown p hp
        rw [← ep]
        exact ⟨_, hm⟩
      · exact ⟨o, key b o hb e⟩
/-- what is known of the law's promise at the head's heap h -/
def OwnAt (l : PySem.W.OpenLaw) (w : World) (K : PySem.W.Frag) (k n : Nat) (x : Str) (mg : Str → Option Value) (fa : Addr) (h : Heap) : Prop :=
  ∃ (fd : FuncData) (cs : List (Addr × Addr)) (sp : Sp), (∀ p ∈ cs, h.get? p.2 = some { cls := .none, data := .fields #[] }) ∧ (∀ p ∈ cs, K.lookup p.2 = none) ∧ (∀ p ∈ cs, PySem.W.CodeHd h p.1 p.2) ∧ (∀ (s : Shared) (u : Value), BindsTo s fd ⟨[u], []⟩ [(x, u)]) ∧
    (∀ (H : Hp) (a : Addr) (ns : List Int), ns.length ≤ n → (∀ p ∈ cs, H p.2 = some (.tbl #[])) → SqL K H a (ns.map V.int) → sp [.ref a] H (fun v _ => v = .bl true) E0) ∧
    ∀ base : Heap, K.In base → base.Ns mainGlobals mg → (∃ o, base.get? sysModules = some o) → (∀ p ∈ cs, TabB base mg p.1 p.2) → FnG l.prog w K mg base CX0 k fa fd [x] sp
theorem own_walkT {l : PySem.W.OpenLaw} {n k : Nat} {q : Program} {loose : List Str} {XP : (Str → Option Value) → Heap → Prop} {YP : World → Heap → Prop} {d : DefRec} {K : Params → PySem.W.Frag} {x : Str} (hq : importsNone q = true) (hn : l.most = some n) (hz : n ≤ sizeLine) (hd : d.params.defaults = []) (hr : Room k callerA)
    (hY : ∀ (w : World) (h : Heap), YP w h → (K w.params).In h)
    (F : ∀ (w : World) (mg : Str → Option Value) (fa : Addr) (h : Heap), YP w h → (K w.params).In h → h.Ns mainGlobals mg → mg d.name = some (.ref fa) → OwnAt l w (K w.params) k n x mg fa h) :
    PySem.W.WalkO q loose XP YP l.row.toRowW d [] (fun f vs => PySem.call f vs) :=
  Att.attach_call hn hd fun w _ s mg _ fa _ _ _ _ a us ns G Y _ _ _ hm ho hi hl hg =>
    have KX := hY w _ Y
    let ⟨_, _, _, hT, nT, C, hb, hsp, hF⟩ := F w mg fa _ Y KX G.T.g hm
    own_callT KX G.T.g G.T.b G.T.builtins G.T.nolimit hg hT nT C G.T.bmain ho hi (Nat.le_trans hl hz) hr (let ⟨mm, h, _⟩ := (G.T.seer hq).mods; ⟨mm, h⟩) hF hb fun H hH hS => hsp H _ ns hl hH hS
end
end Kq
/-! ## The data layer: what a text computes, in plain data; the heap behind it -/
namespace Kd
open PySem PySem.Spec PyProof.Rows L2 Kq LamX
inductive D where
  | non | bl (b : Bool) | int (i : Int) | str (x : Str) | ty (n : String) | cls (c : Str)
  | lst (ds : List D) | tup (ds : List D)
  | dct (ks : List Key) (ds : List D)
  | ins (c : Str) (ks : List Str) (ds : List D)
  | exc (c : Str) (ks : List Str) (ds : List D)
  | scr (ns : List Int)
/-- what a call without arguments gives -/
inductive R0 where
  | ok (d : D) | exc (c : Str) (ks : List Str) (ds : List D)
/-- the names of the module, the classes that things may have, what the lambdas give -/
structure Cn where
  K : PySem.W.Frag
  mg : Str → Option Value
  cs : List Str
  xs : List Str
  T : List (Addr × Str)
  G : Hp → V → R0 → Prop
  Gm : ∀ F F' v r, Same F F' → G F v r → G F' v r
variable {c : Cn}
mutual
inductive Rep (c : Cn) (F : Hp) : V → D → Prop
  | non : Rep c F .non .non
  | bl (b : Bool) : Rep c F (.bl b) (.bl b)
  | int (i : Int) : Rep c F (.int i) (.int i)
  | str (x : Str) : Rep c F (.str x) (.str x)
  | ty (n : String) : Rep c F (.ty n) (.ty n)
  | scr {a : Addr} {ns : List Int} : SqL c.K F a (ns.map V.int) → Rep c F (.ref a) (.scr ns)
  | cls {n : Str} {C : Addr} : n ∈ c.cs ++ c.xs → c.mg n = some (.ref C) → Rep c F (.ref C) (.cls n)
  | lst {a : Addr} {xs : List V} {ds : List D} : F a = some (.lst xs) → Reps c F xs ds → Rep c F (.ref a) (.lst ds)
  | tup {a : Addr} {xs : List V} {ds : List D} : F a = some (.tup xs) → Reps c F xs ds → Rep c F (.ref a) (.tup ds)
  | dct {a : Addr} {kvs : List (Key × V)} {ks : List Key} {ds : List D} : F a = some (.dK kvs) → kvs.map (·.1) = ks → Reps c F (kvs.map (·.2)) ds → Rep c F (.ref a) (.dct ks ds)
  | ins {a C dx : Addr} {fs : List (Str × V)} {n : Str} {ks : List Str} {ds : List D} : n ∈ c.cs → c.mg n = some (.ref C) → F a = some (.ins C dx fs) → fs.map (·.1) = ks → Reps c F (fs.map (·.2)) ds → Rep c F (.ref a) (.ins n ks ds)
  | exc {a C : Addr} {d : Option Addr} {fs : List (Str × V)} {n : Str} {ks : List Str} {ds : List D} : n ∈ c.xs → c.mg n = some (.ref C) → F a = some (ExD (.ref C) d a) → XdOk F d fs → fs.map (·.1) = ks → Reps c F (fs.map (·.2)) ds → Rep c F (.ref a) (.exc n ks ds)
inductive Reps (c : Cn) (F : Hp) : List V → List D → Prop
  | nil : Reps c F [] []
  | cons {v : V} {vs : List V} {d : D} {ds : List D} : Rep c F v d → Reps c F vs ds → Reps c F (v :: vs) (d :: ds)
end
mutual
theorem Rep.mono {F F' : Hp} (h : Same F F') : ∀ {v : V} {d : D}, Rep c F v d → Rep c F' v d
  | _, _, .non => .non
  | _, _, .bl b => .bl b
  | _, _, .int i => .int i
  | _, _, .str x => .str x
  | _, _, .ty n => .ty n
  | _, _, .scr q => .scr (h.seq q)
  | _, _, .cls a b => .cls a b
  | _, _, .lst e q => .lst (h _ _ e) (Reps.mono h q)
  | _, _, .tup e q => .tup (h _ _ e) (Reps.mono h q)
  | _, _, .dct e k q => .dct (h _ _ e) k (Reps.mono h q)
  | _, _, .ins i m e k q => .ins i m (h _ _ e) k (Reps.mono h q)
  | _, _, .exc i m e e2 k q => .exc i m (h _ _ e) (e2.mono h) k (Reps.mono h q)
theorem Reps.mono {F F' : Hp} (h : Same F F') : ∀ {v : List V} {d : List D}, Reps c F v d → Reps c F' v d
  | _, _, .nil => .nil
  | _, _, .cons a b => .cons (Rep.mono h a) (Reps.mono h b)
end
section
variable {F H : Hp}
theorem Reps.length : ∀ {vs : List V} {ds : List D}, Reps c F vs ds → vs.length = ds.length
  | _, _, .nil => rfl
  | _, _, .cons _ b => congrArg Nat.succ (Reps.length b)
theorem Reps.get : ∀ {vs : List V} {ds : List D} {i : Nat} {d : D}, Reps c F vs ds → ds[i]? = some d → ∃ v, vs[i]? = some v ∧ Rep c F v d
  | _, _, _, _, .nil, e => by simp at e
  | _, _, 0, _, .cons a _, e => by simp at e; subst e; exact ⟨_, rfl, a⟩
  | _, _, i + 1, v, .cons _ b, e => by
    obtain ⟨d, h1, h2⟩ := Reps.get (i := i) b (by simpa using e)
    exact ⟨d, by simpa using h1, h2⟩
theorem Reps.getV : ∀ {vs : List V} {ds : List D} {i : Nat} {v : V}, Reps c F vs ds → vs[i]? = some v → ∃ d, ds[i]? = some d ∧ Rep c F v d
  | _, _, _, _, .nil, e => by simp at e
  | _, _, 0, _, .cons a _, e => by simp at e; subst e; exact ⟨_, rfl, a⟩
  | _, _, i + 1, v, .cons _ b, e => by
    obtain ⟨d, h1, h2⟩ := Reps.getV (i := i) b (by simpa using e)
    exact ⟨d, by simpa using h1, h2⟩
theorem Reps.app : ∀ {vs ws : List V} {ds es : List D}, Reps c F vs ds → Reps c F ws es → Reps c F (vs ++ ws) (ds ++ es)
  | _, _, _, _, .nil, h => h
  | _, _, _, _, .cons a b, h => .cons a (Reps.app b h)
theorem Reps.take : ∀ {vs : List V} {ds : List D} (n : Nat), Reps c F vs ds → Reps c F (vs.take n) (ds.take n)
  | _, _, 0, _ => .nil
  | _, _, _ + 1, .nil => .nil
  | _, _, n + 1, .cons a b => .cons a (Reps.take n b)
theorem Reps.drop : ∀ {vs : List V} {ds : List D} (n : Nat), Reps c F vs ds → Reps c F (vs.drop n) (ds.drop n)
  | _, _, 0, h => h
  | _, _, _ + 1, .nil => .nil
  | _, _, n + 1, .cons _ b => Reps.drop n b
theorem Reps.rev : ∀ {vs : List V} {ds : List D}, Reps c F vs ds → Reps c F vs.reverse ds.reverse
  | _, _, .nil => .nil
  | _, _, .cons a b => by
    rw [List.reverse_cons, List.reverse_cons]
    exact Reps.app (Reps.rev b) (.cons a .nil)
theorem Reps.set {v : V} {d : D} (h : Rep c F v d) : ∀ {vs : List V} {ds : List D} (i : Nat), Reps c F vs ds → Reps c F (vs.set i v) (ds.set i d)
  | _, _, _, .nil => .nil
  | _, _, 0, .cons _ b => .cons h b
  | _, _, i + 1, .cons a b => .cons a (Reps.set h i b)
theorem Reps.ints : ∀ (xs : List Int), Reps c F (xs.map V.int) (xs.map D.int)
  | [] => .nil
  | x :: xs => .cons (.int x) (Reps.ints xs)
end
/-! ### only new things were laid -/
structure Grow (F H F' H' : Hp) : Prop where
  f : Same F F'
  h : Same H H'
  fh : Same F' H'
  new : ∀ p, F p = none → F' p ≠ none → H p = none
  nt : ∀ p ps, F' p = some (.tbl ps) → F p = some (.tbl ps)
section
variable {F H F' H' F2 H2 R : Hp} {p : Addr} {o : HO}
theorem Same.none {A B : Hp} (h : Same A B) {p : Addr} (n : B p = none) : A p = none := h.free n
theorem Grow.refl (h : Same F H) : Grow F H F H := ⟨.refl _, .refl _, h, fun _ a b => absurd a b, fun _ _ e => e⟩
theorem Grow.trans (a : Grow F H F' H') (b : Grow F' H' F2 H2) : Grow F H F2 H2 := ⟨a.f.trans b.f, a.h.trans b.h, b.fh, fun p h1 h2 => by
  by_cases e : F' p = .none
  · exact a.h.free (b.new p e h2)
  · exact a.new p h1 e, fun p ps e => a.nt p ps (b.nt p ps e)⟩
theorem same_upd (n : F p = none) : Same F (upd F p o) := fun b u e => by
  rw [upd_ne (ne_of_none e n)]; exact e
theorem same_upd2 (h : Same F H) : Same (upd F p o) (upd H p o) := fun b u e => by
  by_cases q : b = p
  · subst q; rw [upd_same] at e ⊢; exact e
  · rw [upd_ne q] at e ⊢; exact h _ _ e
theorem Grow.alloc (h : Same F H) (n : H p = none) (ho : ∀ ps, o ≠ .tbl ps := by intro _ h; cases h) : Grow F H (upd F p o) (upd H p o) := ⟨same_upd (h.free n), same_upd n, same_upd2 h, fun q h1 h2 => by
  by_cases e : q = p
  · subst e; exact n
  · rw [upd_ne e] at h2; exact absurd h1 h2, fun q ps e => by
  by_cases z : q = p
  · subst z; rw [upd_same] at e; exact absurd (Option.some.inj e) (ho ps)
  · rw [upd_ne z] at e; exact e⟩
theorem Grow.junk (h : Same F H) (n : H p = none) : Grow F H F (upd H p o) := ⟨.refl _, same_upd n, h.trans (same_upd n), fun _ a b => absurd a b, fun _ _ e => e⟩
theorem Grow.keep (g : Grow F H F' H') {u : HO} (e : H p = some u) (n : F p = none) : F' p = none := by
  cases q : F' p with
  | none => rfl
  | some w =>
    have := g.new p n (by rw [q]; simp)
    rw [e] at this; cases this
end
/-! ### the slots -/
inductive SV where
  | un | val (d : D) | own (d : D) | io (d : D) | thk (r : R0)
abbrev En := List SV
/-- at p, and nobody else has it -/
def Own (c : Cn) (F R H : Hp) (p : Addr) : D → Prop
  | .lst ds => F p = none ∧ R p = none ∧ ∃ xs, H p = some (.lst xs) ∧ Reps c F xs ds
  | .dct ks ds => F p = none ∧ R p = none ∧ ∃ kvs, H p = some (.dK kvs) ∧ kvs.map (·.1) = ks ∧ Reps c F (kvs.map (·.2)) ds
  | .ins n ks ds => F p = none ∧ R p = none ∧ ∃ C dx fs, n ∈ c.cs ∧ c.mg n = some (.ref C) ∧ H p = some (.ins C dx fs) ∧ fs.map (·.1) = ks ∧ Reps c F (fs.map (·.2)) ds
  | _ => False
/-- readable: the top as it stands now, what is in it fixed -/
def RepT (c : Cn) (F H : Hp) (v : V) : D → Prop
  | .lst ds => ∃ p xs, v = .ref p ∧ H p = some (.lst xs) ∧ Reps c F xs ds
  | .dct ks ds => ∃ p kvs, v = .ref p ∧ H p = some (.dK kvs) ∧ kvs.map (·.1) = ks ∧ Reps c F (kvs.map (·.2)) ds
  | .ins n ks ds => ∃ p C dx fs, v = .ref p ∧ n ∈ c.cs ∧ c.mg n = some (.ref C) ∧ H p = some (.ins C dx fs) ∧ fs.map (·.1) = ks ∧ Reps c F (fs.map (·.2)) ds
  | d => Rep c F v d
section
variable {F H F' H' F2 H2 R : Hp} {p : Addr} {o : HO} {d : D} {v : V} {n : Str}
theorem Rep.top (r : Rep c F v d) (h : Same F H) : RepT c F H v d := by
  cases r with
  | lst e q => exact ⟨_, _, rfl, h _ _ e, q⟩
  | dct e k q => exact ⟨_, _, rfl, h _ _ e, k, q⟩
  | ins i m e k q => exact ⟨_, _, _, _, rfl, i, m, h _ _ e, k, q⟩
  | non => exact Rep.non
  | bl b => exact Rep.bl b
  | int i => exact Rep.int i
  | str x => exact Rep.str x
  | ty n => exact Rep.ty n
  | scr q => exact Rep.scr (h.seq q) |> fun r => by first | exact r | exact Rep.scr q
  | cls a b => exact Rep.cls a b
  | tup e q => exact Rep.tup e q
  | exc i m e e2 k q => exact Rep.exc i m e e2 k q
theorem Own.top (r : Own c F R H p d) : RepT c F H (.ref p) d := by
  cases d with
  | lst ds => obtain ⟨_, _, xs, e, q⟩ := r; exact ⟨_, _, rfl, e, q⟩
  | dct ks ds => obtain ⟨_, _, kvs, e, k, q⟩ := r; exact ⟨_, _, rfl, e, k, q⟩
  | ins n ks ds => obtain ⟨_, _, C, dx, fs, i, m, e, k, q⟩ := r; exact ⟨_, _, _, _, rfl, i, m, e, k, q⟩
  | _ => exact False.elim r
theorem Own.free (r : Own c F R H p d) : F p = none ∧ R p = none ∧ ∃ u, H p = some u := by
  cases d with
  | lst ds => obtain ⟨a, b, xs, e, q⟩ := r; exact ⟨a, b, _, e⟩
  | dct ks ds => obtain ⟨a, b, kvs, e, k, q⟩ := r; exact ⟨a, b, _, e⟩
  | ins n ks ds => obtain ⟨a, b, C, dx, fs, i, m, e, k, q⟩ := r; exact ⟨a, b, _, e⟩
  | _ => exact False.elim r
theorem Own.mono (r : Own c F R H p d) (f : Same F F') (nf : F' p = none) (e : H' p = H p) : Own c F' R H' p d := by
  cases d with
  | lst ds => obtain ⟨a, b, xs, h, q⟩ := r; exact ⟨nf, b, xs, e.trans h, q.mono f⟩
  | dct ks ds => obtain ⟨a, b, kvs, h, k, q⟩ := r; exact ⟨nf, b, _, e.trans h, k, q.mono f⟩
  | ins n ks ds => obtain ⟨a, b, C, dx, fs, i, m, h, k, q⟩ := r; exact ⟨nf, b, _, _, _, i, m, e.trans h, k, q.mono f⟩
  | _ => exact False.elim r
/-- it is fixed from now on -/
theorem Own.fix (r : Own c F R H p d) : ∃ o, H p = some o ∧ (∀ ps, o ≠ .tbl ps) ∧ Rep c (upd F p o) (.ref p) d := by
  have hn := r.free.1
  cases d with
  | lst ds => obtain ⟨a, b, xs, h, q⟩ := r; exact ⟨_, h, fun _ => nofun, .lst upd_same (q.mono (same_upd hn))⟩
  | dct ks ds => obtain ⟨a, b, kvs, h, k, q⟩ := r; exact ⟨_, h, fun _ => nofun, .dct upd_same k (q.mono (same_upd hn))⟩
  | ins n ks ds => obtain ⟨a, b, C, dx, fs, i, m, h, k, q⟩ := r; exact ⟨_, h, fun _ => nofun, .ins i m upd_same k (q.mono (same_upd hn))⟩
  | _ => exact False.elim r
end
def SlotOk (c : Cn) (F R H : Hp) (s : Option (Option V)) : SV → Prop
  | .un => True
  | .val d => ∃ v, s = some (some v) ∧ Rep c F v d
  | .own d => ∃ p, s = some (some (.ref p)) ∧ Own c F R H p d
  | .io d => ∃ p, s = some (some (.ref p)) ∧ Own c F R H p d
  | .thk r => ∃ v, s = some (some v) ∧ c.G F v r
def owned : Option SV → Bool
  | some (.own _) => true
  | some (.io _) => true
  | _ => false
/-- the tables of code objects are apart -/
structure TbOk (c : Cn) (F R H : Hp) : Prop where
  tabs : Tabs c.T H
  f : ∀ p ps, F p ≠ some (.tbl ps)
  r : ∀ p ps, R p ≠ some (.tbl ps)
  rx : ∀ p f, R p ≠ some (.ext f)
theorem tabs_same {T : List (Addr × Str)} {H H' : Hp} (t : Tabs T H) (s : Same H H') : Tabs T H' := fun p hp => (t p hp).ext s
/-- an object of no table is written -/
theorem tabs_mut {T : List (Addr × Str)} {H : Hp} {p : Addr} {u o : HO} (t : Tabs T H) (e : H p = some u) (h1 : ∀ ps, u ≠ .tbl ps) (h2 : ∀ f, u ≠ .ext f) : Tabs T (upd H p o) := fun q hq => by
  obtain ⟨ps, a, b, d⟩ := t q hq
  refine ⟨ps, ?_, b, fun pos cv hc => ?_⟩
  · rw [upd_ne (fun z => by rw [z, e] at a; cases a; exact h1 ps rfl)]; exact a
  · obtain ⟨k, e1, e2⟩ := d pos cv hc
    refine ⟨k, e1, ?_⟩
    rw [upd_ne (fun z => by rw [z, e] at e2; cases e2; exact h2 _ rfl)]
    exact e2
theorem TbOk.grow {c : Cn} {F R H F' H' : Hp} (t : TbOk c F R H) (g : Grow F H F' H') : TbOk c F' R H' := ⟨tabs_same t.tabs g.h, fun p ps e => t.f p ps (g.nt p ps e), t.r, t.rx⟩
structure Wf (c : Cn) (π : List (Nat × Addr)) (F R H : Hp) (σ : L2.St) (ρ : En) : Prop where
  len : σ.length = ρ.length
  fh : Same F H
  rh : Same R H
  dis : ∀ p, R p ≠ none → F p = none
  slot : ∀ (i : Nat) (x : SV), ρ[i]? = some x → SlotOk c F R H σ[i]? x
  sep : ∀ (i j : Nat) (p : Addr), i ≠ j → owned ρ[i]? = true → owned ρ[j]? = true → σ[i]? = some (some (.ref p)) → σ[j]? = some (some (.ref p)) → False
  io : ∀ (i : Nat) (d : D), ρ[i]? = some (.io d) → ∃ p, (i, p) ∈ π
  pin : ∀ (i : Nat) (p : Addr), (i, p) ∈ π → (∃ d, ρ[i]? = some (.io d)) ∧ σ[i]? = some (some (.ref p))
  tb : TbOk c F R H
section
variable {π : List (Nat × Addr)} {F H F' H' R : Hp} {σ σ' : L2.St} {ρ ρ' : En} {i : Nat} {v : V} {d : D} {p : Addr} {o : HO}
theorem own_of (h : owned ρ[i]? = true) (w : Wf c π F R H σ ρ) : ∃ p d, σ[i]? = some (some (.ref p)) ∧ Own c F R H p d := by
  cases e : ρ[i]? with
  | none => rw [e] at h; cases h
  | some x =>
    have := w.slot i x e
    cases x with
    | own d => obtain ⟨p, a, b⟩ := this; exact ⟨p, d, a, b⟩
    | io d => obtain ⟨p, a, b⟩ := this; exact ⟨p, d, a, b⟩
    | _ => rw [e] at h; cases h
theorem SlotOk.mono {s : Option (Option V)} {x : SV} (h : SlotOk c F R H s x) (f : Same F F') (n : ∀ p u, H p = some u → F p = none → R p = none → F' p = none) (e : ∀ p u, H p = some u → H' p = some u) : SlotOk c F' R H' s x := by
  cases x with
  | un => trivial
  | val d => obtain ⟨v, a, b⟩ := h; exact ⟨v, a, b.mono f⟩
  | own d =>
    obtain ⟨p, a, b⟩ := h
    obtain ⟨h1, h2, u, h3⟩ := b.free
    exact ⟨p, a, b.mono f (n p u h3 h1 h2) ((e p u h3).trans h3.symm)⟩
  | io d =>
    obtain ⟨p, a, b⟩ := h
    obtain ⟨h1, h2, u, h3⟩ := b.free
    exact ⟨p, a, b.mono f (n p u h3 h1 h2) ((e p u h3).trans h3.symm)⟩
  | thk r => obtain ⟨v, a, b⟩ := h; exact ⟨v, a, c.Gm _ _ _ _ f b⟩
theorem Wf.grow (w : Wf c π F R H σ ρ) (g : Grow F H F' H') : Wf c π F' R H' σ ρ := by
  refine ⟨w.len, g.fh, w.rh.trans g.h, fun p hp => ?_, fun i x e => (w.slot i x e).mono g.f (fun p u e n _ => g.keep e n) g.h, w.sep, w.io, w.pin, w.tb.grow g⟩
  cases q : R p with
  | none => exact absurd q hp
  | some u => exact g.keep (w.rh _ _ q) (w.dis p hp)
/-- an object that no slot owns is fixed -/
theorem Wf.fixed (w : Wf c π F R H σ ρ) (e : H p = some o) (ho : ∀ ps, o ≠ .tbl ps) (n : F p = none) (r : R p = none) (h : ∀ (i : Nat), owned ρ[i]? = true → σ[i]? ≠ some (some (V.ref p))) : Wf c π (upd F p o) R H σ ρ := by
  have s1 : Same F (upd F p o) := same_upd n
  refine ⟨w.len, fun b u q => ?_, w.rh, fun q hq => ?_, fun i x q => ?_, w.sep, w.io, w.pin, ⟨w.tb.tabs, fun q ps z => ?_, w.tb.r, w.tb.rx⟩⟩
  · by_cases z : b = p
    · subst z; rw [upd_same] at q; cases q; exact e
    · rw [upd_ne z] at q; exact w.fh _ _ q
  · by_cases z : q = p
    · subst z; exact absurd r hq
    · rw [upd_ne z]; exact w.dis q hq
  · have z := w.slot i x q
    have nq : ∀ p', σ[i]? = some (some (.ref p')) → owned ρ[i]? = true → p' ≠ p := fun p' h1 h2 h3 => h i h2 (h3 ▸ h1)
    cases x with
    | un => trivial
    | val d => obtain ⟨v, a, b⟩ := z; exact ⟨v, a, b.mono s1⟩
    | own d =>
      obtain ⟨p', a, b⟩ := z
      exact ⟨p', a, b.mono s1 (by rw [upd_ne (nq p' a (by rw [q]; rfl))]; exact b.free.1) rfl⟩
    | io d =>
      obtain ⟨p', a, b⟩ := z
      exact ⟨p', a, b.mono s1 (by rw [upd_ne (nq p' a (by rw [q]; rfl))]; exact b.free.1) rfl⟩
    | thk r => obtain ⟨v, a, b⟩ := z; exact ⟨v, a, c.Gm _ _ _ _ s1 b⟩
  · by_cases y : q = p
    · subst y; rw [upd_same] at z; exact ho ps (Option.some.inj z)
    · rw [upd_ne y] at z; exact w.tb.f q ps z
/-- a slot is forgotten -/
theorem Wf.drop (w : Wf c π F R H σ ρ) (h : ∀ d, ρ[i]? ≠ some (.io d)) (v : Option V) : Wf c π F R H (σ.set i v) (ρ.set i .un) := by
  refine ⟨by simpa using w.len, w.fh, w.rh, w.dis, fun j x e => ?_, fun j k p hne h1 h2 h3 h4 => ?_, fun j d e => ?_, fun j p hp => ?_, w.tb⟩
  · by_cases z : j = i
    · subst z
      have hl : j < ρ.length := by
        cases q : (ρ.set j .un)[j]? with
        | none => rw [q] at e; cases e
        | some y => have := (List.getElem?_eq_some_iff.mp q).1; simpa using this
      rw [List.getElem?_set_self hl] at e
      cases e
      trivial
    · rw [List.getElem?_set_ne (Ne.symm z)] at e ⊢
      exact w.slot j x e
  · have aux : ∀ k, owned (ρ.set i .un)[k]? = true → k ≠ i ∧ owned ρ[k]? = true := fun k hk => by
      by_cases z : k = i
      · subst z
        by_cases hl : k < ρ.length
        · rw [List.getElem?_set_self hl] at hk; cases hk
        · rw [List.getElem?_eq_none (by simp; omega)] at hk; cases hk
      · rw [List.getElem?_set_ne (Ne.symm z)] at hk
        exact ⟨z, hk⟩
    obtain ⟨n1, o1⟩ := aux j h1
    obtain ⟨n2, o2⟩ := aux k h2
    rw [List.getElem?_set_ne (Ne.symm n1)] at h3
    rw [List.getElem?_set_ne (Ne.symm n2)] at h4
    exact w.sep j k p hne o1 o2 h3 h4
  · by_cases z : j = i
    · subst z
      by_cases hl : j < ρ.length
      · rw [List.getElem?_set_self hl] at e; cases e
      · rw [List.getElem?_eq_none (by simp; omega)] at e; cases e
    · rw [List.getElem?_set_ne (Ne.symm z)] at e
      exact w.io j d e
  · obtain ⟨⟨d, e⟩, q⟩ := w.pin j p hp
    have z : j ≠ i := fun z => h d (z ▸ e)
    rw [List.getElem?_set_ne (Ne.symm z), List.getElem?_set_ne (Ne.symm z)]
    exact ⟨⟨d, e⟩, q⟩
theorem set_set' {α : Type} (l : List α) (i : Nat) (a b : α) : (l.set i a).set i b = l.set i b := by
  induction l generalizing i with
  | nil => rfl
  | cons x xs ih => cases i with
    | zero => rfl
    | succ i => simp [List.set, ih]
/-- an empty slot is filled -/
theorem Wf.fill {x : SV} (w : Wf c π F R H σ ρ) (hi : i < ρ.length) (hu : ρ[i]? = some .un) (ok : SlotOk c F R H (some (some v)) x) (hx : ∀ d, x ≠ .io d) (hs : ∀ d p, x = .own d → v = .ref p → ∀ (j : Nat), owned ρ[j]? = true → σ[j]? ≠ some (some (V.ref p))) : Wf c π F R H (σ.set i (some v)) (ρ.set i x) := by
  have hσ : i < σ.length := by rw [w.len]; exact hi
  have so : ∀ {k}, owned (ρ.set i x)[k]? = true → k ≠ i → owned ρ[k]? = true := fun {k} h z => by rw [List.getElem?_set_ne (Ne.symm z)] at h; exact h
  have si : owned (ρ.set i x)[i]? = true → ∃ d, x = .own d := fun h => by
    rw [List.getElem?_set_self hi] at h
    cases x with
    | own d => exact ⟨d, rfl⟩
    | io d => exact absurd rfl (hx d)
    | _ => cases h
  refine ⟨by simpa using w.len, w.fh, w.rh, w.dis, fun j y e => ?_, fun j k p hne h1 h2 h3 h4 => ?_, fun j d e => ?_, fun j p hp => ?_, w.tb⟩
  · by_cases z : j = i
    · subst z
      rw [List.getElem?_set_self hi] at e
      cases e
      rw [List.getElem?_set_self hσ]
      exact ok
    · rw [List.getElem?_set_ne (Ne.symm z)] at e ⊢
      exact w.slot j y e
  · by_cases z : j = i
    · subst z
      obtain ⟨d, ex⟩ := si h1
      rw [List.getElem?_set_self hσ] at h3
      rw [List.getElem?_set_ne hne] at h4
      exact hs d p ex (by simpa using h3) k (so h2 (Ne.symm hne)) h4
    · by_cases z2 : k = i
      · subst z2
        obtain ⟨d, ex⟩ := si h2
        rw [List.getElem?_set_self hσ] at h4
        rw [List.getElem?_set_ne (Ne.symm z)] at h3
        exact hs d p ex (by simpa using h4) j (so h1 z) h3
      · rw [List.getElem?_set_ne (Ne.symm z)] at h3
        rw [List.getElem?_set_ne (Ne.symm z2)] at h4
        exact w.sep j k p hne (so h1 z) (so h2 z2) h3 h4
  · by_cases z : j = i
    · subst z
      rw [List.getElem?_set_self hi] at e
      cases e
      exact absurd rfl (hx d)
    · rw [List.getElem?_set_ne (Ne.symm z)] at e
      exact w.io j d e
  · obtain ⟨⟨d, e⟩, q⟩ := w.pin j p hp
    have z : j ≠ i := fun z => by subst z; rw [hu] at e; cases e
    rw [List.getElem?_set_ne (Ne.symm z), List.getElem?_set_ne (Ne.symm z)]
    exact ⟨⟨d, e⟩, q⟩
def isIo : Option SV → Bool
  | some (.io _) => true
  | _ => false
theorem not_io (h : isIo ρ[i]? = false) : ∀ d, ρ[i]? ≠ some (.io d) := fun d e => by rw [e] at h; cases h
theorem Wf.setVal (w : Wf c π F R H σ ρ) (hi : i < ρ.length) (h : isIo ρ[i]? = false) (r : Rep c F v d) : Wf c π F R H (σ.set i (some v)) (ρ.set i (.val d)) := by
  have w1 := w.drop (not_io h) none
  have := w1.fill (i := i) (v := v) (x := .val d) (by simpa using hi) (List.getElem?_set_self hi) ⟨v, rfl, r⟩ (fun _ => nofun) (fun _ _ => nofun)
  rwa [set_set', set_set'] at this
/-- a new object nobody has -/
def Fresh (c : Cn) (F R H : Hp) (σ : L2.St) (ρ : En) (p : Addr) (d : D) : Prop := Own c F R H p d ∧ ∀ (i : Nat), owned ρ[i]? = true → σ[i]? ≠ some (some (V.ref p))
theorem Wf.setOwn (w : Wf c π F R H σ ρ) (hi : i < ρ.length) (h : isIo ρ[i]? = false) (r : Fresh c F R H σ ρ p d) : Wf c π F R H (σ.set i (some (.ref p))) (ρ.set i (.own d)) := by
  have w1 := w.drop (not_io h) none
  have := w1.fill (i := i) (v := .ref p) (x := .own d) (by simpa using hi) (List.getElem?_set_self hi) ⟨p, rfl, r.1⟩ (fun _ => nofun) (fun d' p' _ e j hj e2 => by
    have e3 : p = p' := by injection e
    subst e3
    by_cases z : j = i
    · subst z; rw [List.getElem?_set_self hi] at hj; cases hj
    · rw [List.getElem?_set_ne (Ne.symm z)] at hj e2
      exact r.2 j hj e2)
  rwa [set_set', set_set'] at this
theorem Fresh.fix (r : Fresh c F R H σ ρ p d) (w : Wf c π F R H σ ρ) : ∃ F', Same F F' ∧ Wf c π F' R H σ ρ ∧ Rep c F' (.ref p) d := by
  obtain ⟨o, e, ho, q⟩ := r.1.fix
  obtain ⟨n1, n2, _⟩ := r.1.free
  exact ⟨_, same_upd n1, w.fixed e ho n1 n2 r.2, q⟩
theorem self_set {α : Type} {l : List α} {i : Nat} {a : α} (h : l[i]? = some a) : l.set i a = l := by
  induction l generalizing i with
  | nil => rfl
  | cons x xs ih => cases i with
    | zero => simp at h; subst h; rfl
    | succ i => simp at h; simp [ih h]
/-- an own thing is fixed where it stands -/
theorem Wf.fixOwn (w : Wf c π F R H σ ρ) (h : ρ[i]? = some (.own d)) : ∃ p F', σ[i]? = some (some (.ref p)) ∧ Same F F' ∧ Wf c π F' R H σ (ρ.set i (.val d)) ∧ Rep c F' (.ref p) d := by
  obtain ⟨p, e, r⟩ := w.slot i _ h
  have hi : i < ρ.length := (List.getElem?_eq_some_iff.mp h).1
  have w1 := w.drop (i := i) (fun d' e' => by rw [h] at e'; cases e') (some (.ref p))
  rw [self_set e] at w1
  have fr : Fresh c F R H σ (ρ.set i .un) p d := ⟨r, fun j hj e2 => by
    by_cases z : j = i
    · subst z; rw [List.getElem?_set_self hi] at hj; cases hj
    · rw [List.getElem?_set_ne (Ne.symm z)] at hj
      exact w.sep j i p z hj (by rw [h]; rfl) e2 e⟩
  obtain ⟨F', s, w2, q⟩ := fr.fix w1
  refine ⟨p, F', e, s, ?_, q⟩
  have := w2.fill (i := i) (v := .ref p) (x := .val d) (by simpa using hi) (List.getElem?_set_self hi) ⟨_, rfl, q⟩ (fun _ => nofun) (fun _ _ => nofun)
  rw [set_set', self_set e] at this
  exact this
end
end Kd
/-! ## readings over the data layer: expressions -/
namespace Kd
open PySem PySem.Spec PyProof.Rows L2 Kq
variable {c : Cn}
inductive Out (α : Type) where
  | ok (a : α) (ρ : En) | exc (n : Str) (ks : List Str) (ds : List D) (ρ : En) | no
def Out.bind {α β : Type} (o : Out α) (f : α → En → Out β) : Out β := match o with
  | .ok a ρ => f a ρ
  | .exc n ks ds ρ => .exc n ks ds ρ
  | .no => .no
def lift {α : Type} (o : Option α) (ρ : En) : Out α := match o with
  | some a => .ok a ρ
  | none => .no
/-- the fields of an error -/
def ExF (c : Cn) (F : Hp) (a : Option Addr) (ks : List Str) (ds : List D) : Prop :=
  (ks = [] ∧ ds = [] ∧ a = none) ∨ ∃ p fs, a = some p ∧ F p = some (.xd fs) ∧ fs.map (·.1) = ks ∧ Reps c F (fs.map (·.2)) ds
theorem ExF.mono {F F' : Hp} {a : Option Addr} {ks : List Str} {ds : List D} (h : ExF c F a ks ds) (f : Same F F') : ExF c F' a ks ds := by
  rcases h with h | ⟨p, fs, e, q, k, r⟩
  · exact .inl h
  · exact .inr ⟨p, fs, e, f _ _ q, k, r.mono f⟩
def ExcTo (c : Cn) (W : WX) (π : List (Nat × Addr)) (F R : Hp) (σ : L2.St) (n : Str) (ks : List Str) (ds : List D) (ρ : En) : Prop :=
  ∀ C a F' H', n ∈ c.xs → c.mg n = some (.ref C) → Same F F' → Wf c π F' R H' σ ρ → ExF c F' a ks ds → W (.ref C) a σ H'
def Post {α : Type} (c : Cn) (W : WX) (π : List (Nat × Addr)) (F R : Hp) (σ : L2.St) (o : Out α) (k : α → En → Hp → Hp → Prop) : Prop := match o with
  | .ok a ρ' => ∀ F' H', Same F F' → Wf c π F' R H' σ ρ' → k a ρ' F' H'
  | .exc n ks ds ρ' => ExcTo c W π F R σ n ks ds ρ'
  | .no => False
section
variable {α β : Type} {W : WX} {π : List (Nat × Addr)} {F F' R H H' : Hp} {σ : L2.St} {ρ : En} {o : Out α} {k k' : α → En → Hp → Hp → Prop}
theorem ExcTo.later {n : Str} {ks : List Str} {ds : List D} (h : ExcTo c W π F R σ n ks ds ρ) (s : Same F F') : ExcTo c W π F' R σ n ks ds ρ := fun C a F2 H2 i m s2 => h C a F2 H2 i m (s.trans s2)
theorem Post.later (h : Post c W π F R σ o k) (s : Same F F') : Post c W π F' R σ o k := by
  cases o with
  | ok a ρ' => exact fun F2 H2 s2 => h F2 H2 (s.trans s2)
  | exc n ks ds ρ' => exact ExcTo.later h s
  | no => exact h
theorem Post.imp (h : Post c W π F R σ o k) (i : ∀ a ρ' F' H', o = .ok a ρ' → Same F F' → Wf c π F' R H' σ ρ' → k a ρ' F' H' → k' a ρ' F' H') : Post c W π F R σ o k' := by
  cases o with
  | ok a ρ' => exact fun F2 H2 s2 w => i _ _ _ _ rfl s2 w (h F2 H2 s2 w)
  | exc n ks ds ρ' => exact h
  | no => exact h
theorem Post.bind {f : α → En → Out β} {k : β → En → Hp → Hp → Prop} (h : Post c W π F R σ (o.bind f) k) : Post c W π F R σ o fun a ρ1 F1 _ => Post c W π F1 R σ (f a ρ1) k := by
  cases o with
  | ok a ρ' => exact fun F1 H1 s w => Post.later h s
  | exc n ks ds ρ' => exact h
  | no => exact h
end
theorem Post.lift_some {α : Type} {W : WX} {π : List (Nat × Addr)} {F R H : Hp} {σ : L2.St} {ρ : En} {o : Option α} {k : α → En → Hp → Hp → Prop} (h : Post c W π F R σ (lift o ρ) k) (w : Wf c π F R H σ ρ) : ∃ a, o = some a ∧ k a ρ F H := by
  cases o with
  | none => exact h.elim
  | some a => exact ⟨a, rfl, h F H (.refl _) w⟩
/-! ### judgements -/
def tX {α γ : Type} (c : Cn) (W : WX) (f : En → Out α) (rel : Hp → Hp → L2.St → En → γ → α → Prop) : L2.St → Hp → (γ → Hp → Prop) → Prop := fun σ H Q =>
  ∃ π F R ρ, Wf c π F R H σ ρ ∧ Post c W π F R σ (f ρ) fun a ρ' F' H' => ∀ v, rel F' H' σ ρ' v a → Q v H'
section
variable {α γ : Type} {W : WX} {π : List (Nat × Addr)} {F R H : Hp} {σ : L2.St} {ρ : En} {f : En → Out α} {rel : Hp → Hp → L2.St → En → γ → α → Prop} {k : α → En → Hp → Hp → Prop} {Q : γ → Hp → Prop}
/-- into a reading -/
theorem tX.mk (w : Wf c π F R H σ ρ) (h : Post c W π F R σ (f ρ) k) (q : ∀ v a ρ' F' H', f ρ = .ok a ρ' → Same F F' → Wf c π F' R H' σ ρ' → rel F' H' σ ρ' v a → k a ρ' F' H' → Q v H') : tX c W f rel σ H Q :=
  ⟨π, F, R, ρ, w, h.imp fun a ρ' F' H' e s w' hk v r => q v a ρ' F' H' e s w' r hk⟩
end
/-- what an operand is: a datum, or what stands in a slot -/
inductive Opnd where
  | v (d : D) | s (i : Nat)
def cont : Option SV → Option D
  | some (.val d) => some d
  | some (.own d) => some d
  | some (.io d) => some d
  | _ => none
def deref (ρ : En) : Opnd → Option D
  | .v d => some d
  | .s i => cont ρ[i]?
def RepO (c : Cn) (F : Hp) (σ : L2.St) (v : V) : Opnd → Prop
  | .v d => Rep c F v d
  | .s i => σ[i]? = some (some v)
theorem RepO.mono {F F' : Hp} {σ : L2.St} {v : V} {o : Opnd} (h : RepO c F σ v o) (s : Same F F') : RepO c F' σ v o := by
  cases o with
  | v d => exact Rep.mono s h
  | s i => exact h
theorem RepO.top {π : List (Nat × Addr)} {F R H : Hp} {σ : L2.St} {ρ : En} {v : V} {o : Opnd} {d : D} (h : RepO c F σ v o) (w : Wf c π F R H σ ρ) (e : deref ρ o = some d) : RepT c F H v d := by
  cases o with
  | v d' => cases e; exact Rep.top h w.fh
  | s i =>
    have e : cont ρ[i]? = some d := e
    have h : σ[i]? = some (some v) := h
    cases q : ρ[i]? with
    | none => rw [q] at e; cases e
    | some x =>
      have z := w.slot i x q
      rw [q] at e
      rw [h] at z
      cases x with
      | val d' => cases e; obtain ⟨v', e', r⟩ := z; cases e'; exact r.top w.fh
      | own d' => cases e; obtain ⟨p, e', r⟩ := z; cases e'; exact r.top
      | io d' => cases e; obtain ⟨p, e', r⟩ := z; cases e'; exact r.top
      | _ => cases e
abbrev tE (c : Cn) (W : WX) (f : En → Out D) : TE := tX c W f fun F _ _ _ v d => Rep c F v d
abbrev tO (c : Cn) (W : WX) (f : En → Out Opnd) : TE := tX c W f fun F _ σ _ v o => RepO c F σ v o
abbrev tF (c : Cn) (W : WX) (R0 : Unit) (f : En → Out D) : TE := fun σ H Q => ∃ π F R ρ, Wf c π F R H σ ρ ∧ Post c W π F R σ (f ρ) fun d ρ' F' H' => ∀ p, Fresh c F' R H' σ ρ' p d → Q (.ref p) H'
abbrev tB (c : Cn) (W : WX) (f : En → Out Bool) : TT := fun σ H Q => tX c W f (fun _ _ _ _ (v : Bool) (b : Bool) => v = b) σ H Q
abbrev tAs (c : Cn) (W : WX) (f : En → Out (List D)) : TA := tX c W f fun F _ _ _ vs ds => Reps c F vs ds
abbrev tOs (c : Cn) (W : WX) (f : En → Out (List Opnd)) : TA := tX c W f fun F _ σ _ vs os => Paired (RepO c F σ) vs os
abbrev DE (c : Cn) (X : Cx) (W : WX) (e : Expr) (f : En → Out D) : Prop := PE X e (tE c W f)
abbrev DO (c : Cn) (X : Cx) (W : WX) (e : Expr) (f : En → Out Opnd) : Prop := PE X e (tO c W f)
abbrev DF (c : Cn) (X : Cx) (W : WX) (e : Expr) (f : En → Out D) : Prop := PE X e (tF c W () f)
abbrev DT (c : Cn) (X : Cx) (W : WX) (e : Expr) (f : En → Out Bool) : Prop := PT X e (tB c W f)
abbrev DA (c : Cn) (X : Cx) (W : WX) (es : List Expr) (f : En → Out (List D)) : Prop := PA X es (tAs c W f)
abbrev DOs (c : Cn) (X : Cx) (W : WX) (es : List Expr) (f : En → Out (List Opnd)) : Prop := PA X es (tOs c W f)
theorem _root_.L2.PE.imp {X : Cx} {e : Expr} {t t' : TE} (h : PE X e t) (i : ∀ σ H Q, t' σ H Q → t σ H Q) : PE X e t' := ⟨fun pins s σ H Q I q => h.run pins s σ H Q I (i _ _ _ q)⟩
theorem _root_.L2.PT.imp {X : Cx} {e : Expr} {t t' : TT} (h : PT X e t) (i : ∀ σ H Q, t' σ H Q → t σ H Q) : PT X e t' := ⟨fun pins s σ H Q I q => h.run pins s σ H Q I (i _ _ _ q)⟩
theorem _root_.L2.PW.imp {X : Cx} {e : Expr} {t t' : TT} (h : PW X e t) (i : ∀ σ H Q, t' σ H Q → t σ H Q) : PW X e t' := ⟨fun wh pins s σ H Q I q => h.run wh pins s σ H Q I (i _ _ _ q)⟩
theorem _root_.L2.PA.imp {X : Cx} {e : List Expr} {t t' : TA} (h : PA X e t) (i : ∀ σ H Q, t' σ H Q → t σ H Q) : PA X e t' := ⟨fun pos pins s σ H Q I q => h.run pos pins s σ H Q I (i _ _ _ q)⟩
theorem _root_.L2.PS.imp {X : Cx} {e : Stmt} {t t' : TS} (h : PS X e t) (i : ∀ D σ H, t' D σ H → t D σ H) : PS X e t' := ⟨fun pins s σ H D I q => h.run pins s σ H D I (i _ _ _ q)⟩
theorem _root_.L2.PSs.imp {X : Cx} {e : List Stmt} {t t' : TS} (h : PSs X e t) (i : ∀ D σ H, t' D σ H → t D σ H) : PSs X e t' := ⟨fun pins s σ H D I q => h.run pins s σ H D I (i _ _ _ q)⟩
section
variable {X : Cx} {W : WX}
/-! ### names, constants -/
def var (i : Nat) : En → Out D := fun ρ => match ρ[i]? with
  | some (.val d) => .ok d ρ
  | some (.own d) => .ok d (ρ.set i (.val d))
  | _ => .no
def slt (i : Nat) : En → Out Opnd := fun ρ => match cont ρ[i]? with
  | some _ => .ok (.s i) ρ
  | none => .no
def con (d : D) : En → Out D := fun ρ => .ok d ρ
def opv (f : En → Out D) : En → Out Opnd := fun ρ => (f ρ).bind fun d ρ' => .ok (.v d) ρ'
theorem var_i {i : Nat} {σ : L2.St} {H : Hp} {Q : VK} (h : tE c W (var i) σ H Q) : tVar i σ H Q := by
  obtain ⟨π, F, R, ρ, w, h⟩ := h
  unfold var at h
  cases q : ρ[i]? with
  | none => rw [q] at h; exact h.elim
  | some x =>
    rw [q] at h
    cases x with
    | val d =>
      obtain ⟨v, e, r⟩ := w.slot i _ q
      exact ⟨v, e, h F H (.refl _) w v r⟩
    | own d =>
      obtain ⟨p, F', e, s, w', r⟩ := w.fixOwn q
      exact ⟨_, e, h F' H s w' _ r⟩
    | un => exact h.elim
    | io d => exact h.elim
    | thk r => exact h.elim
theorem slt_i {i : Nat} {σ : L2.St} {H : Hp} {Q : VK} (h : tO c W (slt i) σ H Q) : tVar i σ H Q := by
  obtain ⟨π, F, R, ρ, w, h⟩ := h
  unfold slt at h
  have fin : ∀ {d}, cont ρ[i]? = some d → ∀ v, σ[i]? = some (some v) → tVar i σ H Q := fun {d} q v e => by
    rw [q] at h
    exact ⟨v, e, h F H (.refl _) w v e⟩
  cases q : ρ[i]? with
  | none => rw [q] at h; exact h.elim
  | some x =>
    have z := w.slot i _ q
    rw [q] at fin
    cases x with
    | val d => obtain ⟨v, e, r⟩ := z; exact fin (d := d) rfl v e
    | own d => obtain ⟨p, e, r⟩ := z; exact fin (d := d) rfl _ e
    | io d => obtain ⟨p, e, r⟩ := z; exact fin (d := d) rfl _ e
    | un => rw [q] at h; exact h.elim
    | thk r => rw [q] at h; exact h.elim
theorem con_i {v : V} {d : D} {σ : L2.St} {H : Hp} {Q : VK} (r : ∀ F, Rep c F v d) (h : tE c W (con d) σ H Q) : tC v σ H Q := by
  obtain ⟨π, F, R, ρ, w, h⟩ := h
  exact h F H (.refl _) w _ (r F)
theorem de_var (i : Nat) {x : Str} {pos : Pos} (hN : X.N[i]? = some x := by rfl) (hv : Vis X.env.scope x := by first | exact Or.inl rfl | exact Or.inr (Or.inl rfl) | exact Or.inr (Or.inr rfl)) (hd : (x == ("__debug__" : Str)) = false := by decide)
    (hcd : (x == ("__classdict__" : Str)) = false := by decide) : DE c X W (.Name x pos) (var i) := (pe_var hN hv hd hcd).imp fun _ _ _ => var_i
theorem do_var (i : Nat) {x : Str} {pos : Pos} (hN : X.N[i]? = some x := by rfl) (hv : Vis X.env.scope x := by first | exact Or.inl rfl | exact Or.inr (Or.inl rfl) | exact Or.inr (Or.inr rfl)) (hd : (x == ("__debug__" : Str)) = false := by decide)
    (hcd : (x == ("__classdict__" : Str)) = false := by decide) : DO c X W (.Name x pos) (slt i) := (pe_var hN hv hd hcd).imp fun _ _ _ => slt_i
theorem de_int {i j pos} : DE c X W (.Constant (.int i) j pos) (con (.int i)) := pe_int.imp fun _ _ _ => con_i fun _ => .int _
theorem de_bl {b j pos} : DE c X W (.Constant (.bool b) j pos) (con (.bl b)) := pe_bl.imp fun _ _ _ => con_i fun _ => .bl _
theorem de_non {j pos} : DE c X W (.Constant .none j pos) (con .non) := pe_non.imp fun _ _ _ => con_i fun _ => .non
theorem de_str {x j pos} : DE c X W (.Constant (.str x) j pos) (con (.str x)) := pe_str.imp fun _ _ _ => con_i fun _ => .str _
theorem do_e {e : Expr} {f : En → Out D} (h : DE c X W e f) : DO c X W e (opv f) := h.imp fun σ H Q => by
  rintro ⟨π, F, R, ρ, w, h⟩
  exact tX.mk w (Post.bind h) fun v a ρ' F' H' _ s w' r k => k F' H' (.refl _) w' v r
/-! ### operators -/
def bin (g : D → D → Option D) (fa fb : En → Out Opnd) : En → Out D := fun ρ => (fa ρ).bind fun a ρ1 => (fb ρ1).bind fun b ρ2 =>
  lift ((deref ρ2 a).bind fun x => (deref ρ2 b).bind fun y => g x y) ρ2
/-- the rule r of an operation bears out g -/
def OpL (c : Cn) (r : R2) (g : D → D → Option D) : Prop := ∀ F H x y a b d (Q : VK), Same F H → RepT c F H x a → RepT c F H y b → g a b = some d →
  (∀ v F' H', Grow F H F' H' → Rep c F' v d → Q v H') → r x y H Q
theorem OpL.at {r : R2} {g : D → D → Option D} (hl : OpL c r g) {π : List (Nat × Addr)} {F R H : Hp} {σ : L2.St} {ρ : En} {x y : V} {a b : Opnd} {Q : VK} {k : D → En → Hp → Hp → Prop} (w : Wf c π F R H σ ρ) (ra : RepO c F σ x a) (rb : RepO c F σ y b)
    (h : Post c W π F R σ (lift ((deref ρ a).bind fun x => (deref ρ b).bind fun y => g x y) ρ) k) (q : ∀ v d F' H', Same F F' → Wf c π F' R H' σ ρ → Rep c F' v d → k d ρ F' H' → Q v H') : r x y H Q := by
  cases ea : deref ρ a with
  | none => rw [ea] at h; exact h.elim
  | some da =>
    cases eb : deref ρ b with
    | none => rw [ea, eb] at h; exact h.elim
    | some db =>
      rw [ea, eb] at h
      cases eg : g da db with
      | none => simp only [Option.bind_some, eg] at h; exact h.elim
      | some d =>
        simp only [Option.bind_some, eg] at h
        exact hl F H x y da db d Q w.fh (ra.top w ea) (rb.top w eb) eg fun v F' H' gr rv => q v d F' H' gr.f (w.grow gr) rv (h F' H' gr.f (w.grow gr))
theorem bin_i {r : R2} {g : D → D → Option D} {fa fb : En → Out Opnd} (hl : OpL c r g) {σ : L2.St} {H : Hp} {Q : VK} (h : tE c W (bin g fa fb) σ H Q) : tOp r (tO c W fa) (tO c W fb) σ H Q := by
  obtain ⟨π, F, R, ρ, w, h⟩ := h
  show tO c W fa σ H fun x H1 => tO c W fb σ H1 fun y H2 => r x y H2 Q
  refine tX.mk w (Post.bind h) fun x a ρ1 F1 H1 _ s1 w1 ra k1 => ?_
  refine tX.mk w1 (Post.bind k1) fun y b ρ2 F2 H2 _ s2 w2 rb k2 => ?_
  exact hl.at w2 (ra.mono s2) rb k2 fun v d F' H' _ _ rv k => k v rv
theorem de_bin {a b : Expr} {op : Operator} {r : R2} {g : D → D → Option D} {fa fb : En → Out Opnd} {pos : Pos} (ho : OpR X (binaryOp op) r) (hl : OpL c r g) (ha : DO c X W a fa) (hb : DO c X W b fb) : DE c X W (.BinOp a op b pos) (bin g fa fb) :=
  (pe_op ho ha hb).imp fun _ _ _ => bin_i hl
theorem de_cmp {a b : Expr} {op : CmpOp} {r : R2} {g : D → D → Option D} {fa fb : En → Out Opnd} {pos : Pos} (ho : OpR X (compareOp op) r) (hl : OpL c r g) (ha : DO c X W a fa) (hb : DO c X W b fb) (hm : behindInMarks op b = false) : DE c X W (.Compare a [op] [b] pos) (bin g fa fb) :=
  (pe_cmpR ho ha hb hm).imp fun _ _ _ => bin_i hl
def asB : D → Option Bool
  | .bl b => some b
  | _ => none
/-- a bool's value as a test -/
def tst (f : En → Out D) : En → Out Bool := fun ρ => (f ρ).bind fun d ρ' => lift (asB d) ρ'
theorem tst_k {f : En → Out D} {σ : L2.St} {H : Hp} {Q : Bool → Hp → Prop} (h : tB c W (tst f) σ H Q) : tE c W f σ H fun x H' => ∃ k, x = .bl k ∧ Q k H' := by
  obtain ⟨π, F, R, ρ, w, h⟩ := h
  refine tX.mk w (Post.bind h) fun x a ρ1 F1 H1 _ s1 w1 ra k1 => ?_
  cases a with
  | bl b => cases ra; exact ⟨b, rfl, k1 F1 H1 (.refl _) w1 b rfl⟩
  | _ => exact k1.elim
theorem dt_cmp {a b : Expr} {op : CmpOp} {r : R2} {g : D → D → Option D} {fa fb : En → Out Opnd} {pos : Pos} (ho : OpR X (compareOp op) r) (hl : OpL c r g) (ha : DO c X W a fa) (hb : DO c X W b fb) (hm : behindInMarks op b = false) : DT c X W (.Compare a [op] [b] pos) (tst (bin g fa fb)) :=
  (pt_cmpR ho ha hb hm).imp fun _ _ _ h => bin_i hl (tst_k h)
theorem dt_val {e : Expr} {f : En → Out D} (h : DE c X W e f) (he : ∀ whole, isTrue e X.env whole = (do let v ← whole; standAt e.pos; holding [v] (truthy v)) := by intro _; rfl) : DT c X W e (tst f) :=
  (pt_val h he).imp fun _ _ _ q => tst_k q
/-- a < b < c -/
def chn (g g' : D → D → Option D) (fa fb fc : En → Out Opnd) : En → Out D := fun ρ => (fa ρ).bind fun a ρ1 => (fb ρ1).bind fun b ρ2 =>
  (lift ((deref ρ2 a).bind fun x => (deref ρ2 b).bind fun y => g x y) ρ2).bind fun z ρ3 => (lift (asB z) ρ3).bind fun k ρ3 =>
    if k = true then (fc ρ3).bind fun e ρ4 => lift ((deref ρ4 b).bind fun x => (deref ρ4 e).bind fun y => g' x y) ρ4 else .ok (.bl false) ρ3
end
end Kd
namespace Kd
open PySem PySem.Spec PyProof.Rows L2 Kq
variable {c : Cn}
section
variable {X : Cx} {W : WX} {σ : L2.St} {H : Hp} {pos : Pos}
/-! ### and, or, not, if -/
def andS (fa fb : En → Out D) : En → Out D := fun ρ => (fa ρ).bind fun a ρ1 => (lift (asB a) ρ1).bind fun k ρ1 => if k = true then fb ρ1 else .ok (.bl false) ρ1
def orS (fa fb : En → Out D) : En → Out D := fun ρ => (fa ρ).bind fun a ρ1 => (lift (asB a) ρ1).bind fun k ρ1 => if k = true then .ok (.bl true) ρ1 else fb ρ1
def notS (fa : En → Out D) : En → Out D := fun ρ => (fa ρ).bind fun a ρ1 => (lift (asB a) ρ1).bind fun k ρ1 => .ok (.bl (!k)) ρ1
def andT (fa fb : En → Out Bool) : En → Out Bool := fun ρ => (fa ρ).bind fun k ρ1 => if k = true then fb ρ1 else .ok false ρ1
def orT (fa fb : En → Out Bool) : En → Out Bool := fun ρ => (fa ρ).bind fun k ρ1 => if k = true then .ok true ρ1 else fb ρ1
def notT (fa : En → Out Bool) : En → Out Bool := fun ρ => (fa ρ).bind fun k ρ1 => .ok (!k) ρ1
def ifS (ft : En → Out Bool) (fa fb : En → Out D) : En → Out D := fun ρ => (ft ρ).bind fun k ρ1 => if k = true then fa ρ1 else fb ρ1
variable {a b e : Expr} {rest : List Expr} {fa fb : En → Out D} {ta tb : En → Out Bool}
abbrev DW (c : Cn) (X : Cx) (W : WX) (e : Expr) (f : En → Out Bool) : Prop := PW X e (tB c W f)
theorem dw_and1 (ha : DT c X W a ta) : DW c X W (.BoolOp .And [a] pos) ta := pw_and1 ha
theorem dw_or1 (ha : DT c X W a ta) : DW c X W (.BoolOp .Or [a] pos) ta := pw_or1 ha
theorem dw_and (ha : DT c X W a ta) (hb : DW c X W (.BoolOp .And (b :: rest) pos) tb) : DW c X W (.BoolOp .And (a :: b :: rest) pos) (andT ta tb) := (pw_and ha hb).imp fun σ H Q => by
  rintro ⟨π, F, R, ρ, w, h⟩
  unfold tAnd
  refine tX.mk w (Post.bind h) fun x k ρ1 F1 H1 _ s1 w1 ra k1 => ?_
  subst ra
  cases x with
  | true => exact ⟨π, F1, R, ρ1, w1, k1⟩
  | false => exact k1 F1 H1 (.refl _) w1 _ rfl
theorem dw_or (ha : DT c X W a ta) (hb : DW c X W (.BoolOp .Or (b :: rest) pos) tb) : DW c X W (.BoolOp .Or (a :: b :: rest) pos) (orT ta tb) := (pw_or ha hb).imp fun σ H Q => by
  rintro ⟨π, F, R, ρ, w, h⟩
  unfold tOr
  refine tX.mk w (Post.bind h) fun x k ρ1 F1 H1 _ s1 w1 ra k1 => ?_
  subst ra
  cases x with
  | false => exact ⟨π, F1, R, ρ1, w1, k1⟩
  | true => exact k1 F1 H1 (.refl _) w1 _ rfl
theorem dt_w (h : DW c X W a ta) : DT c X W a ta := PW.pt h
theorem dt_not (ha : DT c X W a ta) : DT c X W (.UnaryOp .Not a pos) (notT ta) := (pt_not ha).imp fun σ H Q => by
  rintro ⟨π, F, R, ρ, w, h⟩
  unfold tNot
  refine tX.mk w (Post.bind h) fun x k ρ1 F1 H1 _ s1 w1 ra k1 => ?_
  subst ra
  exact k1 F1 H1 (.refl _) w1 _ rfl
/-! ### fields -/
def getF (cl : List Str) (f : Str) : D → Option D
  | .ins n ks ds => if n ∈ cl then (ks.zip ds).lookup f else none
  | _ => none
def un (g : D → Option D) (fo : En → Out Opnd) : En → Out D := fun ρ => (fo ρ).bind fun o ρ1 => lift ((deref ρ1 o).bind g) ρ1
theorem lookup_rep {F : Hp} {f : Str} {d : D} : ∀ {fs : List (Str × V)} {ks : List Str} {ds : List D}, fs.map (·.1) = ks → Reps c F (fs.map (·.2)) ds → (ks.zip ds).lookup f = some d → ∃ v, fs.lookup f = some v ∧ Rep c F v d
  | [], _, _, hk, hr, h => by cases hk; cases hr; cases h
  | (k, v) :: fs, _, _, hk, hr, h => by
    cases hk
    cases hr with
    | cons r1 r2 =>
      simp only [List.map_cons, List.zip_cons_cons, List.lookup_cons] at h ⊢
      cases q : f == k with
      | true => rw [q] at h; cases h; exact ⟨v, rfl, r1⟩
      | false => rw [q] at h; exact lookup_rep rfl r2 h
/-! ### argument lists -/
def nilS {α : Type} : En → Out (List α) := fun ρ => .ok [] ρ
def consS {α : Type} (f : En → Out α) (g : En → Out (List α)) : En → Out (List α) := fun ρ => (f ρ).bind fun d ρ1 => (g ρ1).bind fun ds ρ2 => .ok (d :: ds) ρ2
variable {es : List Expr} {gs : En → Out (List D)} {fo : En → Out Opnd} {go : En → Out (List Opnd)}
theorem da_nil : DA c X W [] nilS := pa_nil.imp fun σ H Q => by
  rintro ⟨π, F, R, ρ, w, h⟩
  exact h F H (.refl _) w _ .nil
theorem da_cons (he : DE c X W e fa) (hr : DA c X W es gs) (hs : starEach (e :: es) X.env = (false, eval e X.env) :: starEach es X.env := by rfl) : DA c X W (e :: es) (consS fa gs) := (pa_cons he hr hs).imp fun σ H Q => by
  rintro ⟨π, F, R, ρ, w, h⟩
  unfold tCons
  refine tX.mk w (Post.bind h) fun x d ρ1 F1 H1 _ s1 w1 ra k1 => ?_
  refine tX.mk w1 (Post.bind k1) fun xs ds ρ2 F2 H2 _ s2 w2 rs k2 => ?_
  exact k2 F2 H2 (.refl _) w2 _ (.cons (ra.mono s2) rs)
theorem do_nil : DOs c X W [] nilS := pa_nil.imp fun σ H Q => by
  rintro ⟨π, F, R, ρ, w, h⟩
  exact h F H (.refl _) w _ .nil
theorem do_cons (he : DO c X W e fo) (hr : DOs c X W es go) (hs : starEach (e :: es) X.env = (false, eval e X.env) :: starEach es X.env := by rfl) : DOs c X W (e :: es) (consS fo go) := (pa_cons he hr hs).imp fun σ H Q => by
  rintro ⟨π, F, R, ρ, w, h⟩
  unfold tCons
  refine tX.mk w (Post.bind h) fun x d ρ1 F1 H1 _ s1 w1 ra k1 => ?_
  refine tX.mk w1 (Post.bind k1) fun xs ds ρ2 F2 H2 _ s2 w2 rs k2 => ?_
  exact k2 F2 H2 (.refl _) w2 _ (.cons (ra.mono s2) rs)
/-- a tuple, a list as a value; a list of one's own -/
def tupS (g : En → Out (List D)) : En → Out D := fun ρ => (g ρ).bind fun ds ρ1 => if ds.length ≤ 4096 then .ok (.tup ds) ρ1 else .no
def lstS (g : En → Out (List D)) : En → Out D := fun ρ => (g ρ).bind fun ds ρ1 => if ds.length ≤ 4096 then .ok (.lst ds) ρ1 else .no
theorem line4 : (4096 : Nat) ≤ sizeLine := by rw [sizeLine_eq]; decide
theorem de_tup {x1} (ha : DA c X W es gs) : DE c X W (.Tuple es x1 pos) (tupS gs) := (pe_tup ha).imp fun σ H Q => by
  rintro ⟨π, F, R, ρ, w, h⟩
  unfold tTup
  refine tX.mk w (Post.bind h) fun xs ds ρ1 F1 H1 _ s1 w1 ra k1 => ?_
  split at k1
  · rename_i hl
    refine ⟨by rw [ra.length]; exact Nat.le_trans hl line4, fun p np => ?_⟩
    have g := Grow.alloc (o := .tup xs) w1.fh np
    exact k1 _ _ g.f (w1.grow g) _ (.tup upd_same (ra.mono g.f))
  · exact k1.elim
theorem de_lst (ha : DA c X W es gs) : DE c X W (.List es pos) (lstS gs) := (pe_lst ha).imp fun σ H Q => by
  rintro ⟨π, F, R, ρ, w, h⟩
  unfold tLst
  refine tX.mk w (Post.bind h) fun xs ds ρ1 F1 H1 _ s1 w1 ra k1 => ?_
  split at k1
  · rename_i hl
    refine ⟨by rw [ra.length]; exact Nat.le_trans hl line4, fun p np => ?_⟩
    have g := Grow.alloc (o := .lst xs) w1.fh np
    exact k1 _ _ g.f (w1.grow g) _ (.lst upd_same (ra.mono g.f))
  · exact k1.elim
theorem fresh_new {π : List (Nat × Addr)} {F R H : Hp} {ρ : En} {p : Addr} {o : HO} (w : Wf c π F R H σ ρ) (np : H p = none) : Wf c π F R (upd H p o) σ ρ ∧ F p = none ∧ R p = none ∧ ∀ (i : Nat), owned ρ[i]? = true → σ[i]? ≠ some (some (V.ref p)) := by
  refine ⟨w.grow (Grow.junk w.fh np), w.fh.free np, w.rh.free np, fun i hi e => ?_⟩
  obtain ⟨q, d, e1, r⟩ := own_of hi w
  rw [e] at e1
  cases e1
  obtain ⟨_, _, u, e2⟩ := r.free
  rw [np] at e2
  cases e2
theorem df_lst (ha : DA c X W es gs) : DF c X W (.List es pos) (lstS gs) := (pe_lst ha).imp fun σ H Q => by
  rintro ⟨π, F, R, ρ, w, h⟩
  unfold tLst
  refine tX.mk w (Post.bind h) fun xs ds ρ1 F1 H1 _ s1 w1 ra k1 => ?_
  split at k1
  · rename_i hl
    refine ⟨by rw [ra.length]; exact Nat.le_trans hl line4, fun p np => ?_⟩
    obtain ⟨w2, n1, n2, n3⟩ := fresh_new (o := .lst xs) w1 np
    exact k1 _ _ (.refl _) w2 p ⟨⟨n1, n2, xs, upd_same, ra⟩, n3⟩
  · exact k1.elim
/-! ### calls of built-ins, by values -/
def CaL (c : Cn) (r : List V → Hp → VK → Prop) (g : List D → Option D) : Prop := ∀ F H xs ds d (Q : VK), Same F H → Paired (RepT c F H) xs ds → g ds = some d → (∀ v F' H', Grow F H F' H' → Rep c F' v d → Q v H') → r xs H Q
def derefs (ρ : En) : List Opnd → Option (List D)
  | [] => some []
  | o :: os => (deref ρ o).bind fun d => (derefs ρ os).bind fun ds => some (d :: ds)
def cal (g : List D → Option D) (fs : En → Out (List Opnd)) : En → Out D := fun ρ => (fs ρ).bind fun os ρ1 => lift ((derefs ρ1 os).bind g) ρ1
theorem derefs_top {π : List (Nat × Addr)} {F R H : Hp} {ρ : En} (w : Wf c π F R H σ ρ) : ∀ {xs : List V} {os : List Opnd} {ds : List D}, Paired (RepO c F σ) xs os → derefs ρ os = some ds → Paired (RepT c F H) xs ds
  | _, _, _, .nil, e => by cases e; exact .nil
  | _, _, _, .cons (a := x) (b := o) (l₂ := os) a b, e => by
    unfold derefs at e
    cases e1 : deref ρ o with
    | none => rw [e1] at e; cases e
    | some d =>
      cases e2 : derefs ρ os with
      | none => rw [e1, e2] at e; cases e
      | some ds =>
        rw [e1, e2] at e
        cases e
        exact .cons (RepO.top a w e1) (derefs_top w b e2)
theorem cal_i {r : List V → Hp → VK → Prop} {g : List D → Option D} {Q : VK} (hl : CaL c r g) (h : tE c W (cal g go) σ H Q) : tCB r (tOs c W go) σ H Q := by
  obtain ⟨π, F, R, ρ, w, h⟩ := h
  unfold tCB
  refine tX.mk w (Post.bind h) fun xs os ρ1 F1 H1 _ s1 w1 ra k1 => ?_
  cases eo : derefs ρ1 os with
  | none => rw [eo] at k1; exact k1.elim
  | some ds =>
    rw [eo] at k1
    cases ed : g ds with
    | none => simp only [Option.bind_some, ed] at k1; exact k1.elim
    | some d =>
      simp only [Option.bind_some, ed] at k1
      exact hl F1 H1 xs ds d Q w1.fh (derefs_top w1 ra eo) ed fun v F' H' gr rv => k1 F' H' gr.f (w1.grow gr) v rv
end
end Kd
/-! ## statements -/
namespace Kd
open PySem PySem.Spec PyProof.Rows L2 Kq
variable {c : Cn}
inductive SOut where
  | nx (ρ : En) | rt (fr : Bool) (d : D) (ρ : En) | bk (ρ : En) | ct (ρ : En) | exc (n : Str) (ks : List Str) (ds : List D) (ρ : En) | no
def RetRep (c : Cn) (fr : Bool) (F R H : Hp) (σ : L2.St) (ρ : En) (v : V) (d : D) : Prop := match fr with
  | true => ∃ p, v = .ref p ∧ Fresh c F R H σ ρ p d
  | false => Rep c F v d
def PostS (c : Cn) (W : WX) (π : List (Nat × Addr)) (F R : Hp) (o : SOut) (D : Ends) : Prop := match o with
  | .nx ρ' => ∀ σ' F' H', Same F F' → Wf c π F' R H' σ' ρ' → D.nx σ' H'
  | .bk ρ' => ∀ σ' F' H', Same F F' → Wf c π F' R H' σ' ρ' → D.bk σ' H'
  | .ct ρ' => ∀ σ' F' H', Same F F' → Wf c π F' R H' σ' ρ' → D.ct σ' H'
  | .rt fr d ρ' => ∀ v σ' F' H', Same F F' → Wf c π F' R H' σ' ρ' → RetRep c fr F' R H' σ' ρ' v d → D.rt v H'
  | .exc n ks ds ρ' => ∀ σ', ExcTo c W π F R σ' n ks ds ρ'
  | .no => False
def tS (c : Cn) (W : WX) (g : En → SOut) : TS := fun D σ H => ∃ π F R ρ, Wf c π F R H σ ρ ∧ PostS c W π F R (g ρ) D
abbrev DS (c : Cn) (X : Cx) (W : WX) (s : Stmt) (g : En → SOut) : Prop := PS X s (tS c W g)
abbrev DSs (c : Cn) (X : Cx) (W : WX) (s : List Stmt) (g : En → SOut) : Prop := PSs X s (tS c W g)
section
variable {W : WX} {π : List (Nat × Addr)} {F F' R H H' : Hp} {σ : L2.St} {ρ : En} {o : SOut} {D D' : Ends}
theorem PostS.later (h : PostS c W π F R o D) (s : Same F F') : PostS c W π F' R o D := by
  cases o with
  | nx ρ' => exact fun σ' F2 H2 s2 => h σ' F2 H2 (s.trans s2)
  | bk ρ' => exact fun σ' F2 H2 s2 => h σ' F2 H2 (s.trans s2)
  | ct ρ' => exact fun σ' F2 H2 s2 => h σ' F2 H2 (s.trans s2)
  | rt fr d ρ' => exact fun v σ' F2 H2 s2 => h v σ' F2 H2 (s.trans s2)
  | exc n ks ds ρ' => exact fun σ' => ExcTo.later (h σ') s
  | no => exact h
/-- from an expression to a statement -/
def toS {α : Type} (o : Out α) (k : α → En → SOut) : SOut := match o with
  | .ok a ρ => k a ρ
  | .exc n ks ds ρ => .exc n ks ds ρ
  | .no => .no
theorem PostS.toS {α : Type} {o : Out α} {k : α → En → SOut} (h : PostS c W π F R (Kd.toS o k) D) : Post c W π F R σ o fun a ρ1 F1 _ => PostS c W π F1 R (k a ρ1) D := by
  cases o with
  | ok a ρ' => exact fun F1 H1 s w => PostS.later h s
  | exc n ks ds ρ' => exact h σ
  | no => exact h
/-! ### blocks -/
def skip : En → SOut := fun ρ => .nx ρ
def seqS (g h : En → SOut) : En → SOut := fun ρ => match g ρ with
  | .nx ρ' => h ρ'
  | o => o
variable {X : Cx} {s : Stmt} {ss : List Stmt} {g h : En → SOut} {pos : Pos}
theorem ds_nil : DSs c X W [] skip := pss_nil.imp fun D σ H => by
  rintro ⟨π, F, R, ρ, w, h⟩
  exact h σ F H (.refl _) w
theorem ds_cons (h1 : DS c X W s g) (h2 : DSs c X W ss h) : DSs c X W (s :: ss) (seqS g h) := (pss_cons h1 h2).imp fun D σ H => by
  rintro ⟨π, F, R, ρ, w, hp⟩
  refine ⟨π, F, R, ρ, w, ?_⟩
  unfold seqS at hp
  cases q : g ρ with
  | nx ρ' =>
    rw [q] at hp
    exact fun σ' F' H' s1 w1 => ⟨π, F', R, ρ', w1, hp.later s1⟩
  | bk ρ' => rw [q] at hp; exact hp
  | ct ρ' => rw [q] at hp; exact hp
  | rt fr d ρ' => rw [q] at hp; exact hp
  | exc n ks ds ρ' => rw [q] at hp; exact hp
  | no => rw [q] at hp; exact hp
theorem ds_one (h1 : DS c X W s g) : DSs c X W [s] g := pss_one h1
/-! ### small statements -/
variable {e a b : Expr} {ft : En → Out Bool} {gs : En → Out (List Kd.D)} {fo : En → Out Opnd}
def dropS (f : En → Out Kd.D) : En → SOut := fun ρ => toS (f ρ) fun _ ρ1 => .nx ρ1
def retS (f : En → Out Kd.D) : En → SOut := fun ρ => toS (f ρ) fun d ρ1 => .rt false d ρ1
def retF (f : En → Out Kd.D) : En → SOut := fun ρ => toS (f ρ) fun d ρ1 => .rt true d ρ1
theorem ds_ret {f : En → Out Kd.D} (he : DE c X W e f) : DS c X W (.Return (some e) pos) (retS f) := (ps_ret he).imp fun D σ H => by
  rintro ⟨π, F, R, ρ, w, h⟩
  unfold tRet
  exact tX.mk w (PostS.toS h) fun x d ρ1 F1 H1 _ s1 w1 ra k1 => k1 x σ F1 H1 (.refl _) w1 ra
theorem ds_retF {f : En → Out Kd.D} (he : DF c X W e f) : DS c X W (.Return (some e) pos) (retF f) := (ps_ret he).imp fun D σ H => by
  rintro ⟨π, F, R, ρ, w, h⟩
  refine ⟨π, F, R, ρ, w, (PostS.toS (σ := σ) h).imp fun d ρ1 F1 H1 _ s1 w1 k1 p hp => k1 _ σ F1 H1 (.refl _) w1 ⟨p, rfl, hp⟩⟩
def ifSt (ft : En → Out Bool) (g h : En → SOut) : En → SOut := fun ρ => toS (ft ρ) fun k ρ1 => if k = true then g ρ1 else h ρ1
theorem ds_if {t : Expr} {a b : List Stmt} (ht : DT c X W t ft) (ha : DSs c X W a g) (hb : DSs c X W b h) : DS c X W (.If t a b pos) (ifSt ft g h) := (ps_if ht ha hb).imp fun D σ H => by
  rintro ⟨π, F, R, ρ, w, h⟩
  unfold tIfS
  refine tX.mk w (PostS.toS h) fun x k ρ1 F1 H1 _ s1 w1 ra k1 => ?_
  subst ra
  cases x with
  | true => exact ⟨π, F1, R, ρ1, w1, k1⟩
  | false => exact ⟨π, F1, R, ρ1, w1, k1⟩
def canSet (ρ : En) (i : Nat) : Bool := decide (i < ρ.length) && !isIo ρ[i]?
theorem canSet_of {i : Nat} (h : canSet ρ i = true) : i < ρ.length ∧ isIo ρ[i]? = false := by
  unfold canSet at h
  simpa using h
def asgS (i : Nat) (f : En → Out Kd.D) : En → SOut := fun ρ => toS (f ρ) fun d ρ1 => if canSet ρ1 i = true then .nx (ρ1.set i (.val d)) else .no
def ownS (i : Nat) (f : En → Out Kd.D) : En → SOut := fun ρ => toS (f ρ) fun d ρ1 => if canSet ρ1 i = true then .nx (ρ1.set i (.own d)) else .no
theorem asg_k {i : Nat} {d : Kd.D} {v : V} (w : Wf c π F R H σ ρ) (r : Rep c F v d) (h : PostS c W π F R (if canSet ρ i = true then .nx (ρ.set i (.val d)) else .no) D) : D.nx (σ.set i (some v)) H := by
  by_cases q : canSet ρ i = true
  · rw [if_pos q] at h
    obtain ⟨h1, h2⟩ := canSet_of q
    exact h _ F H (.refl _) (w.setVal h1 h2 r)
  · rw [if_neg q] at h
    exact h.elim
theorem ds_asg (i : Nat) {x : Str} {f : En → Out Kd.D} {pos' : Pos} (hN : X.N.Nodup) (hi : X.N[i]? = some x) (hx : Loc X.env.scope x) (he : DE c X W e f) (hs : swapsWith e (some (.Name x pos')) pos.line X.env = pure false := by rfl) (hf : X.fn x = true ∨ X.env.scope.names.lookup x = some .local := by first | exact .inl rfl | exact .inr rfl | assumption) :
    DS c X W (.Assign [.Name x pos'] e pos) (asgS i f) := (ps_set hN hi hx he hs hf).imp fun D σ H => by
  rintro ⟨π, F, R, ρ, w, h⟩
  unfold tAsg
  exact tX.mk w (PostS.toS h) fun x d ρ1 F1 H1 _ s1 w1 ra k1 => asg_k w1 ra k1
theorem ds_own (i : Nat) {x : Str} {f : En → Out Kd.D} {pos' : Pos} (hN : X.N.Nodup) (hi : X.N[i]? = some x) (hx : Loc X.env.scope x) (he : DF c X W e f) (hs : swapsWith e (some (.Name x pos')) pos.line X.env = pure false := by rfl) (hf : X.fn x = true ∨ X.env.scope.names.lookup x = some .local := by first | exact .inl rfl | exact .inr rfl | assumption) :
    DS c X W (.Assign [.Name x pos'] e pos) (ownS i f) := (ps_set hN hi hx he hs hf).imp fun D σ H => by
  rintro ⟨π, F, R, ρ, w, h⟩
  refine ⟨π, F, R, ρ, w, (PostS.toS (σ := σ) h).imp fun d ρ1 F1 H1 _ s1 w1 k1 p hp => ?_⟩
  by_cases q : canSet ρ1 i = true
  · rw [if_pos q] at k1
    obtain ⟨h1, h2⟩ := canSet_of q
    exact k1 _ F1 H1 (.refl _) (w1.setOwn h1 h2 hp)
  · rw [if_neg q] at k1
    exact k1.elim
/-- a, b = x, y -/
def parS (i j : Nat) (fs : En → Out (List Kd.D)) : En → SOut := fun ρ => toS (fs ρ) fun ds ρ1 => match ds with
  | [a, b] => if canSet ρ1 i = true ∧ canSet (ρ1.set i (.val a)) j = true then .nx ((ρ1.set i (.val a)).set j (.val b)) else .no
  | _ => .no
theorem ds_par (i j : Nat) {x y : Str} {a b : Expr} {fs : En → Out (List Kd.D)} {px py pt : Pos} {kt k2 pt2} (hc : X.calm = true) (hN : X.N.Nodup) (hi : X.N[i]? = some x) (hj : X.N[j]? = some y) (hij : i ≠ j)
    (hx : X.env.scope.names.lookup x = some .local) (hy : X.env.scope.names.lookup y = some .local) (ha : DA c X W [a, b] fs)
    (hw : swappedStores [.Tuple [.Name x px, .Name y py] kt pt] (.Tuple [a, b] k2 pt2) X.env = pure (some [x, y]))
    (hs : swapsWithSole [.Tuple [.Name x px, .Name y py] kt pt] (.Tuple [a, b] k2 pt2) pos.line X.env = pure false := by rfl) :
    DS c X W (.Assign [.Tuple [.Name x px, .Name y py] kt pt] (.Tuple [a, b] k2 pt2) pos) (parS i j fs) := (ps_par hc hN hi hj hij hx hy ha hw hs).imp fun D σ H => by
  rintro ⟨π, F, R, ρ, w, h⟩
  unfold tPar
  refine tX.mk w (PostS.toS h) fun vs ds ρ1 F1 H1 _ s1 w1 ra k1 => ?_
  match ds, vs, ra, k1 with
  | [da, db], _, .cons r1 (.cons r2 .nil), k1 =>
    refine ⟨_, _, rfl, ?_⟩
    by_cases q : canSet ρ1 i = true ∧ canSet (ρ1.set i (.val da)) j = true
    · have k1 : PostS c W π F1 R (if canSet ρ1 i = true ∧ canSet (ρ1.set i (.val da)) j = true then .nx ((ρ1.set i (.val da)).set j (.val db)) else .no) D := k1
      rw [if_pos q] at k1
      obtain ⟨h1, h2⟩ := canSet_of q.1
      obtain ⟨h3, h4⟩ := canSet_of q.2
      exact k1 _ F1 H1 (.refl _) ((w1.setVal h1 h2 r1).setVal h3 h4 r2)
    · have k1 : PostS c W π F1 R (if canSet ρ1 i = true ∧ canSet (ρ1.set i (.val da)) j = true then .nx ((ρ1.set i (.val da)).set j (.val db)) else .no) D := k1
      rw [if_neg q] at k1
      exact k1.elim
  | [], _, _, k1 => exact k1.elim
  | [_], _, _, k1 => exact k1.elim
  | _ :: _ :: _ :: _, _, _, k1 => exact k1.elim
end
/-! ### an own thing is changed -/
def keepK (x : SV) (d : D) : SV := match x with
  | .io _ => .io d
  | _ => .own d
section
variable {W : WX} {π : List (Nat × Addr)} {F F' R H H' : Hp} {σ : L2.St} {ρ : En} {i : Nat} {x : SV} {p : Addr} {d d' : D} {o : HO}
theorem Wf.mut (w : Wf c π F R H σ ρ) (hx : ρ[i]? = some x) (ho : owned (some x) = true) (hp : σ[i]? = some (some (.ref p))) (new : Own c F R (upd H p o) p d') : Wf c π F R (upd H p o) σ (ρ.set i (keepK x d')) := by
  have hi : i < ρ.length := (List.getElem?_eq_some_iff.mp hx).1
  have hox : owned ρ[i]? = true := by rw [hx]; exact ho
  have kk : owned (some (keepK x d')) = true := by cases x <;> first | rfl | cases ho
  have oo : ∀ {j : Nat}, owned (ρ.set i (keepK x d'))[j]? = true → owned ρ[j]? = true := fun {j} h => by
    by_cases z : j = i
    · subst z; exact hox
    · rw [List.getElem?_set_ne (Ne.symm z)] at h; exact h
  obtain ⟨n1, n2, _⟩ := new.free
  obtain ⟨u, h0, h0a, h0b⟩ : ∃ u, H p = some u ∧ (∀ ps, u ≠ .tbl ps) ∧ ∀ f, u ≠ .ext f := by
    have s := w.slot i x hx
    have kind : ∀ d, Own c F R H p d → ∃ u, H p = some u ∧ (∀ ps, u ≠ .tbl ps) ∧ ∀ f, u ≠ .ext f := fun d o => by
      cases d with
      | lst ds => obtain ⟨_, _, xs, e, _⟩ := o; exact ⟨_, e, fun _ => nofun, fun _ => nofun⟩
      | dct ks ds => obtain ⟨_, _, xs, e, _⟩ := o; exact ⟨_, e, fun _ => nofun, fun _ => nofun⟩
      | ins n ks ds => obtain ⟨_, _, C, dx, fs, _, _, e, _⟩ := o; exact ⟨_, e, fun _ => nofun, fun _ => nofun⟩
      | _ => exact o.elim
    cases x with
    | own d => obtain ⟨q, e, o⟩ := s; rw [hp] at e; cases e; exact kind _ o
    | io d => obtain ⟨q, e, o⟩ := s; rw [hp] at e; cases e; exact kind _ o
    | _ => cases ho
  refine ⟨by simpa using w.len, fun b u e => ?_, fun b u e => ?_, w.dis, fun j y e => ?_, fun j k q hne h1 h2 => w.sep j k q hne (oo h1) (oo h2), fun j dd e => ?_, fun j q hq => ?_, ⟨tabs_mut w.tb.tabs h0 h0a h0b, w.tb.f, w.tb.r, w.tb.rx⟩⟩
  · rw [upd_ne (ne_of_none e n1)]; exact w.fh _ _ e
  · rw [upd_ne (ne_of_none e n2)]; exact w.rh _ _ e
  · by_cases z : j = i
    · subst z
      rw [List.getElem?_set_self hi] at e
      cases e
      cases x with
      | own dd => exact ⟨p, hp, new⟩
      | io dd => exact ⟨p, hp, new⟩
      | _ => cases ho
    · rw [List.getElem?_set_ne (Ne.symm z)] at e
      have s := w.slot j y e
      have far : ∀ q, owned ρ[j]? = true → σ[j]? = some (some (.ref q)) → q ≠ p := fun q h1 h2 h3 => by
        subst h3
        exact w.sep j i q z h1 hox h2 hp
      cases y with
      | un => trivial
      | val dd => exact s
      | own dd =>
        obtain ⟨q, e1, r⟩ := s
        exact ⟨q, e1, r.mono (.refl _) r.free.1 (upd_ne (far q (by rw [e]; rfl) e1))⟩
      | io dd =>
        obtain ⟨q, e1, r⟩ := s
        exact ⟨q, e1, r.mono (.refl _) r.free.1 (upd_ne (far q (by rw [e]; rfl) e1))⟩
      | thk r => exact s
  · by_cases z : j = i
    · subst z
      rw [List.getElem?_set_self hi] at e
      cases x with
      | io d0 => exact w.io _ d0 hx
      | own d0 => cases e
      | _ => cases ho
    · rw [List.getElem?_set_ne (Ne.symm z)] at e
      exact w.io j dd e
  · obtain ⟨⟨dd, e⟩, e2⟩ := w.pin j q hq
    refine ⟨?_, e2⟩
    by_cases z : j = i
    · subst z
      rw [hx] at e
      cases e
      exact ⟨d', List.getElem?_set_self hi⟩
    · rw [List.getElem?_set_ne (Ne.symm z)]
      exact ⟨dd, e⟩
/-- the own thing in a slot -/
def ownAt (ρ : En) (i : Nat) : Option (SV × D) := match ρ[i]? with
  | some (.own d) => some (.own d, d)
  | some (.io d) => some (.io d, d)
  | _ => none
theorem ownAt_of (w : Wf c π F R H σ ρ) (h : ownAt ρ i = some (x, d)) : ρ[i]? = some x ∧ owned (some x) = true ∧ ∃ p, σ[i]? = some (some (.ref p)) ∧ Own c F R H p d := by
  unfold ownAt at h
  cases q : ρ[i]? with
  | none => rw [q] at h; cases h
  | some y =>
    rw [q] at h
    have s := w.slot i y q
    cases y with
    | own d0 => cases h; exact ⟨rfl, rfl, s⟩
    | io d0 => cases h; exact ⟨rfl, rfl, s⟩
    | _ => cases h
/-- the slot's own thing by g -/
def modS (i : Nat) (g : D → Option D) : En → SOut := fun ρ => match ownAt ρ i with
  | some (x, d) => (match g d with
    | some d' => .nx (ρ.set i (keepK x d'))
    | none => .no)
  | none => .no
variable {X : Cx} {e : Expr} {f : En → Out D} {pos apos cpos np : Pos} {n : Str}
def appD (y : D) : D → Option D
  | .lst ds => if ds.length < 4096 then some (.lst (ds ++ [y])) else none
  | _ => none
def isL (ρ : En) (i : Nat) : Bool := match ρ[i]? with
  | some (.own (.lst _)) => true
  | some (.io (.lst _)) => true
  | _ => false
def appS (i : Nat) (f : En → Out D) : En → SOut := fun ρ => if isL ρ i = true then toS (f ρ) fun y ρ1 => modS i (appD y) ρ1 else .no
end
end Kd
/-! ## targets, loops, stores -/
namespace Kd
open PySem PySem.Spec PyProof.Rows L2 Kq
variable {c : Cn}
section
variable {W : WX} {π : List (Nat × Addr)} {F F' R H H' : Hp} {σ : L2.St} {ρ : En} {i : Nat} {x : SV} {p : Addr} {d d' : D} {o : HO}
variable {X : Cx} {e : Expr} {f : En → Out D} {pos apos cpos np : Pos} {n : Str}
/-! ### targets: which slots they fill -/
def tG (c : Cn) (is : List Nat) (g : D → En → Option En) : TG := fun v σ H Q => ∃ π F R ρ d ρ', Wf c π F R H σ ρ ∧ Rep c F v d ∧ g d ρ = some ρ' ∧
  ∀ σ', Wf c π F R H σ' ρ' → σ'.length = σ.length → (∀ j, j ∉ is → σ'[j]? = σ[j]?) → Q σ' H
def tGs (c : Cn) (is : List Nat) (g : List D → En → Option En) : TGs := fun vs σ H Q => ∃ π F R ρ ds ρ', Wf c π F R H σ ρ ∧ Reps c F vs ds ∧ g ds ρ = some ρ' ∧
  ∀ σ', Wf c π F R H σ' ρ' → σ'.length = σ.length → (∀ j, j ∉ is → σ'[j]? = σ[j]?) → Q σ' H
abbrev DG (c : Cn) (X : Cx) (e : Expr) (is : List Nat) (g : D → En → Option En) : Prop := PG X e (tG c is g)
abbrev DGs (c : Cn) (X : Cx) (e : List Expr) (is : List Nat) (g : List D → En → Option En) : Prop := PGs X e (tGs c is g)
theorem _root_.L2.PG.imp {X : Cx} {e : Expr} {t t' : TG} (h : PG X e t) (i : ∀ v σ H Q, t' v σ H Q → t v σ H Q) : PG X e t' := ⟨fun pins s σ H v u Q I r q => h.run pins s σ H v u Q I r (i _ _ _ _ q)⟩
theorem _root_.L2.PGs.imp {X : Cx} {e : List Expr} {t t' : TGs} (h : PGs X e t) (i : ∀ v σ H Q, t' v σ H Q → t v σ H Q) : PGs X e t' := ⟨fun pins s σ H v u Q I r q => h.run pins s σ H v u Q I r (i _ _ _ _ q)⟩
def nmG (i : Nat) : D → En → Option En := fun d ρ => if canSet ρ i = true then some (ρ.set i (.val d)) else none
theorem dg_name (i : Nat) {x : Str} {pos : Pos} (hN : X.N.Nodup) (hi : X.N[i]? = some x) (hx : Loc X.env.scope x) (hf : X.fn x = true ∨ X.env.scope.names.lookup x = some .local := by first | exact .inl rfl | exact .inr rfl | assumption) : DG c X (.Name x pos) [i] (nmG i) := (pg_name hN hi hx hf).imp fun v σ H Q => by
  rintro ⟨π, F, R, ρ, d, ρ', w, r, e, h⟩
  unfold nmG at e
  by_cases q : canSet ρ i = true
  · rw [if_pos q] at e
    cases e
    obtain ⟨h1, h2⟩ := canSet_of q
    exact h _ (w.setVal h1 h2 r) (by simp) fun j hj => by rw [List.getElem?_set_ne]; intro z; exact hj (by simp [z])
  · rw [if_neg q] at e; cases e
def nilG : List D → En → Option En := fun ds ρ => match ds with
  | [] => some ρ
  | _ => none
def consG (g : D → En → Option En) (h : List D → En → Option En) : List D → En → Option En := fun ds ρ => match ds with
  | d :: ds => (g d ρ).bind fun ρ1 => h ds ρ1
  | [] => none
theorem dg_nil : DGs c X [] [] nilG := pgs_nil.imp fun v σ H Q => by
  rintro ⟨π, F, R, ρ, ds, ρ', w, r, e, h⟩
  cases r with
  | nil => cases e; exact ⟨rfl, h _ w rfl fun _ _ => rfl⟩
  | cons _ _ => cases e
theorem dg_cons {e : Expr} {es : List Expr} {is js : List Nat} {g : D → En → Option En} {k : List D → En → Option En} (h1 : DG c X e is g) (h2 : DGs c X es js k)
    (hs : (assignEach (e :: es) X.env).map (·.2) = assign e X.env :: (assignEach es X.env).map (·.2) := by rfl) : DGs c X (e :: es) (is ++ js) (consG g k) := (pgs_cons h1 h2 hs).imp fun v σ H Q => by
  rintro ⟨π, F, R, ρ, ds, ρ', w, r, e, h⟩
  cases r with
  | nil => cases e
  | cons r1 r2 =>
    rename_i v vs d ds
    have e : (g d ρ).bind (fun ρ1 => k ds ρ1) = some ρ' := e
    cases q : g d ρ with
    | none => rw [q] at e; cases e
    | some ρ1 =>
      rw [q] at e
      refine ⟨v, vs, rfl, π, F, R, ρ, d, ρ1, w, r1, q, fun σ1 w1 l1 a1 => ⟨π, F, R, ρ1, ds, ρ', w1, r2, e, fun σ2 w2 l2 a2 => h σ2 w2 (l2.trans l1) fun j hj => ?_⟩⟩
      exact (a2 j fun z => hj (List.mem_append_right _ z)).trans (a1 j fun z => hj (List.mem_append_left _ z))
def tupG (m : Nat) (g : List D → En → Option En) : D → En → Option En := fun d ρ => match d with
  | .tup ds => if ds.length = m then g ds ρ else none
  | _ => none
theorem dg_tup {es : List Expr} {k m : Nat} {is : List Nat} {g : List D → En → Option En} {pos : Pos} (hc : X.calm = true) (h : DGs c X es is g)
    (hn : (assignEach es X.env).length = m := by rfl) (hst : (assignEach es X.env).findIdx? (·.1) = none := by rfl) : DG c X (.Tuple es k pos) is (tupG m g) := (pg_tup hc h hn hst).imp fun v σ H Q => by
  rintro ⟨π, F, R, ρ, d, ρ', w, r, e, q⟩
  cases d with
  | tup ds =>
    cases r with
    | tup e1 rs =>
      have e : (if ds.length = m then g ds ρ else none) = some ρ' := e
      by_cases hl : ds.length = m
      · rw [if_pos hl] at e
        exact ⟨_, _, rfl, SqT.of (w.fh _ _ e1), rs.length.trans hl, π, F, R, ρ, ds, ρ', w, rs, e, q⟩
      · rw [if_neg hl] at e; cases e
  | _ => cases e
/-- target = value, any target of these -/
def setS (g : D → En → Option En) (f : En → Out D) : En → SOut := fun ρ => toS (f ρ) fun d ρ1 => match g d ρ1 with
  | some ρ2 => .nx ρ2
  | none => .no
theorem ds_set {tg : Expr} {is : List Nat} {g : D → En → Option En} (he : DE c X W e f) (hg : DG c X tg is g) (hs : swapsWithSole [tg] e pos.line X.env = pure false := by rfl) (hw : swappedStores [tg] e X.env = pure none := by rfl)
    (h1 : (assignEach [tg] X.env).map (·.2) = [assign tg X.env] := by rfl) : DS c X W (.Assign [tg] e pos) (setS g f) := (ps_asg he hg hs hw h1).imp fun D σ H => by
  rintro ⟨π, F, R, ρ, w, h⟩
  unfold tAsg
  refine tX.mk w (PostS.toS h) fun v d ρ1 F1 H1 _ s1 w1 ra k1 => ?_
  cases q : g d ρ1 with
  | none => rw [q] at k1; exact k1.elim
  | some ρ2 =>
    rw [q] at k1
    exact ⟨π, F1, R, ρ1, d, ρ2, w1, ra, q, fun σ' w' _ _ => k1 σ' F1 H1 (.refl _) w'⟩
/-! ### what is walked -/
def WalkD (c : Cn) (J : It) (F : Hp) (ds : List D) : Prop := Walk J ds.length (fun H => Same F H) (fun i H x H' => ∀ F2, Same F F2 → Same F2 H → ∃ F3 d, Grow F2 H F3 H' ∧ ds[i]? = some d ∧ Rep c F3 x d)
def tI (c : Cn) (W : WX) (fi : En → Out (List D)) : TI := tX c W fi fun F _ _ _ J ds => WalkD c J F ds
abbrev DI (c : Cn) (X : Cx) (W : WX) (tg e : Expr) (fi : En → Out (List D)) : Prop := PI X tg e (tI c W fi)
theorem _root_.L2.PI.imp {X : Cx} {tg e : Expr} {t t' : TI} (h : PI X tg e t) (i : ∀ σ H Q, t' σ H Q → t σ H Q) : PI X tg e t' := ⟨fun pins s σ H R I q => h.run pins s σ H R I (i _ _ _ q)⟩
theorem _root_.L2.PI.or {X : Cx} {tg e : Expr} {t t' : TI} (h : PI X tg e t) (h' : PI X tg e t') : PI X tg e (fun σ H Q => t σ H Q ∨ t' σ H Q) := ⟨fun pins s σ H R I q => q.elim (h.run pins s σ H R I) (h'.run pins s σ H R I)⟩
/-- a list, a tuple -/
def seqI (f : En → Out D) : En → Out (List D) := fun ρ => (f ρ).bind fun d ρ1 => match d with
  | .lst ds => .ok ds ρ1
  | .tup ds => .ok ds ρ1
  | _ => .no
theorem walkD_of {J : It} {F : Hp} {xs : List V} {ds : List D} (r : Reps c F xs ds) (w : Walk J xs.length (fun H => Same F H) (YAt xs)) : WalkD c J F ds := by
  unfold WalkD
  rw [← r.length]
  refine w.mono (fun _ h => h) fun i H x H' hi hs hy F2 s1 s2 => ?_
  obtain ⟨rfl, hx⟩ := hy
  obtain ⟨d, h1, h2⟩ := r.getV hx
  exact ⟨F2, d, .refl s2, h1, h2.mono s1⟩
/-! ### for -/
def forS (g : D → En → Option En) (b : En → SOut) : List D → En → SOut
  | [], ρ => .nx ρ
  | d :: ds, ρ => match g d ρ with
    | none => .no
    | some ρ1 => match b ρ1 with
      | .nx ρ2 => forS g b ds ρ2
      | .ct ρ2 => forS g b ds ρ2
      | .bk ρ2 => .nx ρ2
      | o => o
def forSt (fi : En → Out (List D)) (g : D → En → Option En) (b : En → SOut) : En → SOut := fun ρ => toS (fi ρ) fun ds ρ1 => forS g b ds ρ1
theorem ds_for {iter tg : Expr} {body : List Stmt} {fi : En → Out (List D)} {is : List Nat} {g : D → En → Option En} {b : En → SOut} (hp : PassesOwn (model X.prog X.w) X.A X.env X.xe) (hc : X.calm = true) (hi : DI c X W tg iter fi) (hg : DG c X tg is g) (hb : DSs c X W body b)
    (hs : ∀ x, foldedSetIterable iter X.env x = pure x := by intro _; rfl) : DS c X W (.For tg iter body [] pos) (forSt fi g b) := (ps_for hp hc hi hg hb hs).imp fun D σ H => by
  rintro ⟨π, F, R, ρ, w, h⟩
  unfold tFor
  refine tX.mk w (PostS.toS h) fun J ds ρ1 F1 H1 _ s1 w1 wk k1 => ?_
  refine for_it wk (fun i σ H => ∃ F' ρ', Same F1 F' ∧ Wf c π F' R H σ ρ' ∧ PostS c W π F' R (forS g b (ds.drop i) ρ') D) ⟨F1, ρ1, .refl _, w1, by simpa using k1⟩ (fun i σ H _ => ?_) (fun i x σ H H' hi => ?_) (fun σ H => ?_)
  · rintro ⟨F', ρ', s, w', _⟩
    exact s.trans w'.fh
  · rintro ⟨F', ρ', s, w', hq⟩ hy
    obtain ⟨F3, d, gr, ed, rd⟩ := hy F' s w'.fh
    have ed' : ds.drop i = d :: ds.drop (i + 1) := by
      rw [List.drop_eq_getElem_cons hi]
      congr 1
      rw [List.getElem?_eq_getElem hi] at ed
      exact Option.some.inj ed
    rw [ed'] at hq
    unfold forS at hq
    cases q : g d ρ' with
    | none => rw [q] at hq; exact hq.elim
    | some ρ2 =>
      rw [q] at hq
      refine ⟨π, F3, R, ρ', d, ρ2, w'.grow gr, rd, q, fun σ2 w2 _ _ => ⟨π, F3, R, ρ2, w2, ?_⟩⟩
      have hq := PostS.later hq gr.f
      dsimp only at hq
      have go : ∀ ρ3, PostS c W π F3 R (forS g b (ds.drop (i + 1)) ρ3) D → ∀ σ' F' H', Same F3 F' → Wf c π F' R H' σ' ρ3 → ∃ F' ρ', Same F1 F' ∧ Wf c π F' R H' σ' ρ' ∧ PostS c W π F' R (forS g b (ds.drop (i + 1)) ρ') D :=
        fun ρ3 h3 σ' F' H' s3 w3 => ⟨F', ρ3, (s.trans gr.f).trans s3, w3, h3.later s3⟩
      cases qb : b ρ2 with
      | nx ρ3 => rw [qb] at hq; exact go ρ3 hq
      | ct ρ3 => rw [qb] at hq; exact go ρ3 hq
      | bk ρ3 => rw [qb] at hq; exact hq
      | rt fr d ρ3 => rw [qb] at hq; exact hq
      | exc n ks ds ρ3 => rw [qb] at hq; exact hq
      | no => rw [qb] at hq; exact hq
  · rintro ⟨F', ρ', s, w', hq⟩
    rw [List.drop_length] at hq
    exact hq σ F' H (.refl _) w'
/-! ### while -/
end
end Kd
/-! ## what is walked; comprehensions -/
namespace Kd
open PySem PySem.Spec PyProof.Rows L2 Kq RZ
variable {c : Cn}
section
variable {W : WX} {π : List (Nat × Addr)} {F F' R H H' : Hp} {σ : L2.St} {ρ : En} {i : Nat} {p : Addr} {d : D} {o : HO}
variable {X : Cx} {e tg : Expr} {f : En → Out D} {pos np : Pos} {n : Str} {K : PySem.W.Frag} {go : En → Out (List Opnd)}
theorem di_seq (he : DE c X W e f) (hK : X.K = K := by rfl) : DI c X W tg e (seqI f) := ((pi_listP he hK).or (pi_tupP he hK)).imp fun σ H Q => by
  rintro ⟨π, F, R, ρ, w, h⟩
  have h := Post.bind h
  unfold iList iTup
  cases q : f ρ with
  | no => rw [q] at h; exact h.elim
  | exc n ks ds ρ1 => exact .inl ⟨π, F, R, ρ, w, by rw [q] at h ⊢; exact h⟩
  | ok d ρ1 =>
    cases d with
    | tup ds =>
      refine .inr (tX.mk w h fun v a ρ1 F1 H1 e1 s1 w1 ra k1 => ?_)
      rw [q] at e1
      cases e1
      cases ra with
      | tup e2 rs => exact ⟨_, rfl, ⟨_, SqT.of (w1.fh _ _ e2)⟩, k1 F1 H1 (.refl _) w1 _ (walkD_of rs (walk_tup.mono (fun H hs => SqT.of (hs _ _ e2)) fun _ _ _ _ _ _ y => y))⟩
    | lst ds =>
      refine .inl (tX.mk w h fun v a ρ1 F1 H1 e1 s1 w1 ra k1 => ?_)
      rw [q] at e1
      cases e1
      cases ra with
      | lst e2 rs => exact ⟨_, rfl, ⟨_, SqL.of (w1.fh _ _ e2)⟩, k1 F1 H1 (.refl _) w1 _ (walkD_of rs (walk_list.mono (fun H hs => SqL.of (hs _ _ e2)) fun _ _ _ _ _ _ y => y))⟩
    | _ =>
      refine .inl (tX.mk w h fun v a ρ1 F1 H1 e1 s1 w1 ra k1 => ?_)
      rw [q] at e1
      cases e1
      exact k1.elim
/-- a text, sign by sign -/
def strI (f : En → Out D) : En → Out (List D) := fun ρ => (f ρ).bind fun d ρ1 => match d with
  | .str z => .ok (z.cps.toList.map fun x => D.str ⟨#[x]⟩) ρ1
  | _ => .no
/-- range(n), range(m, n) -/
def big62 : Int := 4611686018427387904
def intsFrom (lo : Int) (n : Nat) : List D := (List.range n).map fun i => D.int (lo + (i : Nat))
def asI : D → Option Int
  | .int i => some i
  | _ => none
theorem asI_of {d : D} {j : Int} (h : asI d = some j) : d = .int j := by cases d <;> first | (cases h; rfl) | cases h
def rng1 : List D → Option (List D)
  | [a] => (asI a).bind fun j => if -big62 ≤ j ∧ j < big62 then some (intsFrom 0 j.toNat) else none
  | _ => none
def rngI (g : List D → Option (List D)) (fs : En → Out (List D)) : En → Out (List D) := fun ρ => (fs ρ).bind fun ds ρ1 => lift (g ds) ρ1
theorem walk_ints {lo : Int} {n : Nat} {F : Hp} : WalkD c (Itr lo n) F (intsFrom lo n) := by
  unfold WalkD intsFrom
  have hl : ((List.range n).map fun i => D.int (lo + (i : Nat))).length = n := by simp
  rw [hl]
  refine walk_range.mono (fun _ _ => trivial) fun i H x H' hi hs hy F2 s1 s2 => ?_
  obtain ⟨rfl, rfl⟩ := hy
  exact ⟨F2, _, .refl s2, by rw [List.getElem?_map, List.getElem?_range hi]; rfl, .int _⟩
theorem b62 : big62 = 2 ^ 62 := by decide
theorem di_range1 {a : Expr} {fs : En → Out (List D)} {p pos : Pos} (hg : Gl X "range") (hm : X.mg "range" = none) (ha : DA c X W [a] fs) (hs : starEach [a] X.env = [(false, eval a X.env)] := by rfl) : DI c X W tg (.Call (.Name "range" p) [a] [] pos) (rngI rng1 fs) := (pi_range1 hg hm ha hs).imp fun σ H Q => by
  rintro ⟨π, F, R, ρ, w, h⟩
  unfold iRng1
  refine tX.mk w (Post.bind h) fun vs ds ρ1 F1 H1 e1 s1 w1 ra k1 => ?_
  obtain ⟨os, e2, k2⟩ := Post.lift_some k1 w1
  match ds, ra, e2 with
  | [d], .cons r1 .nil, e2 =>
    obtain ⟨j, e3, e4⟩ := Option.bind_eq_some_iff.mp e2
    have := asI_of e3
    subst this
    cases r1
    by_cases hj : -big62 ≤ j ∧ j < big62
    · rw [if_pos hj] at e4
      cases e4
      exact ⟨j, rfl, by rw [← b62]; exact hj.1, by rw [← b62]; exact hj.2, k2 _ walk_ints⟩
    · rw [if_neg hj] at e4; cases e4
  | [], _, e2 => cases e2
  | _ :: _ :: _, _, e2 => cases e2
/-- enumerate(list), zip -/
def asL : D → Option (List D)
  | .lst ds => some ds
  | _ => none
def asT : D → Option (List D)
  | .tup ds => some ds
  | _ => none
def numbered : Nat → List D → List D
  | _, [] => []
  | k, d :: ds => .tup [.int (k : Nat), d] :: numbered (k + 1) ds
theorem numbered_get : ∀ (ds : List D) (k i : Nat), (numbered k ds)[i]? = ds[i]?.map fun d => .tup [.int ((k + i : Nat) : Nat), d]
  | [], _, _ => rfl
  | d :: ds, k, 0 => rfl
  | d :: ds, k, i + 1 => by
    show (numbered (k + 1) ds)[i]? = ds[i]?.map _
    rw [numbered_get ds (k + 1) i, show k + 1 + i = k + (i + 1) by omega]
theorem numbered_length : ∀ (ds : List D) (k : Nat), (numbered k ds).length = ds.length
  | [], _ => rfl
  | _ :: ds, k => congrArg Nat.succ (numbered_length ds (k + 1))
def paired : List D → List D → List D
  | a :: as, b :: bs => .tup [a, b] :: paired as bs
  | _, _ => []
theorem pair_grow {F2 : Hp} {x y : V} {dx dy : D} (s : Same F2 H) (n : H p = none) (rx : Rep c F2 x dx) (ry : Rep c F2 y dy) : ∃ F3, Grow F2 H F3 (upd H p (.tup [x, y])) ∧ Rep c F3 (.ref p) (.tup [dx, dy]) := by
  have g := Grow.alloc (o := .tup [x, y]) s n
  exact ⟨_, g, .tup upd_same (.cons (rx.mono g.f) (.cons (ry.mono g.f) .nil))⟩
def zipI (f f2 : En → Out D) : En → Out (List D) := fun ρ => (f ρ).bind fun a ρ1 => (f2 ρ1).bind fun b ρ2 => 
  lift (match asL a, asL b with
    | some xs, some ys => some (paired xs ys)
    | _, _ => match asT a, asT b with
      | some xs, some ys => some (paired xs ys)
      | _, _ => none) ρ2
end
end Kd
/-! ## list comprehensions -/
namespace Kd
open PySem PySem.Spec PyProof.Rows L2 Kq
variable {c : Cn}
/-- the places in vs from the first, the others from the second -/
def rest : Nat → List Nat → En → En → En
  | k, vs, a :: as, b :: bs => (if k ∈ vs then a else b) :: rest (k + 1) vs as bs
  | _, _, _, _ => []
def wip : Nat → List Nat → En → En
  | k, vs, a :: as => (if k ∈ vs then .un else a) :: wip (k + 1) vs as
  | _, _, [] => []
def okW : Nat → List Nat → En → Bool
  | k, vs, a :: as => (if k ∈ vs then !owned (some a) else true) && okW (k + 1) vs as
  | _, _, [] => true
theorem rest_length : ∀ (k : Nat) (vs : List Nat) (as bs : En), as.length = bs.length → (rest k vs as bs).length = bs.length
  | _, _, [], [], _ => rfl
  | k, vs, a :: as, b :: bs, h => congrArg Nat.succ (rest_length (k + 1) vs as bs (by simpa using h))
theorem rest_get : ∀ (k : Nat) (vs : List Nat) (as bs : En), as.length = bs.length → ∀ j, (rest k vs as bs)[j]? = if k + j ∈ vs then as[j]? else bs[j]?
  | k, vs, [], [], _, j => by simp [rest]
  | k, vs, a :: as, b :: bs, h, 0 => by
    by_cases q : k ∈ vs <;> simp [rest, q]
  | k, vs, a :: as, b :: bs, h, j + 1 => by
    have := rest_get (k + 1) vs as bs (by simpa using h) j
    rw [show k + 1 + j = k + (j + 1) by omega] at this
    simpa [rest] using this
theorem wip_length : ∀ (k : Nat) (vs : List Nat) (as : En), (wip k vs as).length = as.length
  | _, _, [] => rfl
  | k, vs, a :: as => congrArg Nat.succ (wip_length (k + 1) vs as)
theorem wip_get : ∀ (k : Nat) (vs : List Nat) (as : En) (j : Nat), (wip k vs as)[j]? = if k + j ∈ vs then as[j]?.map (fun _ => .un) else as[j]?
  | k, vs, [], j => by simp [wip]
  | k, vs, a :: as, 0 => by by_cases q : k ∈ vs <;> simp [wip, q]
  | k, vs, a :: as, j + 1 => by
    have := wip_get (k + 1) vs as j
    rw [show k + 1 + j = k + (j + 1) by omega] at this
    simpa [wip] using this
theorem okW_get : ∀ (k : Nat) (vs : List Nat) (as : En), okW k vs as = true → ∀ j, k + j ∈ vs → owned as[j]? = false
  | k, vs, [], _, j, _ => by simp [owned]
  | k, vs, a :: as, h, j, hj => by
    unfold okW at h
    rw [Bool.and_eq_true] at h
    cases j with
    | zero =>
      have q : k ∈ vs := hj
      rw [if_pos q] at h
      simpa using h.1
    | succ j => simpa using okW_get (k + 1) vs as h.2 j (by rw [show k + 1 + j = k + (j + 1) by omega]; exact hj)
theorem wipe_get (σ : L2.St) : ∀ (vs : List Nat) (j : Nat), (wipe σ vs)[j]? = if j ∈ vs then σ[j]?.map (fun _ => none) else σ[j]?
  | [], j => by simp [wipe]
  | v :: vs, j => by
    unfold wipe
    by_cases q : v = j
    · subst q
      by_cases hl : v < (wipe σ vs).length
      · rw [List.getElem?_set_self hl]
        rw [wipe_length] at hl
        simp [hl]
      · rw [List.getElem?_eq_none (by simpa using hl)]
        rw [wipe_length] at hl
        simp [List.getElem?_eq_none (Nat.le_of_not_lt hl)]
    · rw [List.getElem?_set_ne q, wipe_get σ vs j]
      by_cases h : j ∈ vs <;> simp [h, Ne.symm q]
section
variable {W : WX} {π : List (Nat × Addr)} {F F1 F' R H H1 H' : Hp} {σ σ' : L2.St} {ρ ρ1 ρ' : En} {i : Nat} {p : Addr} {d : D} {o : HO} {vs : List Nat}
theorem wiped (w : Wf c π F R H σ ρ) (h : okW 0 vs ρ = true) : Wf c π F R H (wipe σ vs) (wip 0 vs ρ) := by
  have g := fun j => wip_get 0 vs ρ j
  simp only [Nat.zero_add] at g
  have ow := fun j => okW_get 0 vs ρ h j
  simp only [Nat.zero_add] at ow
  have no : ∀ j, owned (wip 0 vs ρ)[j]? = true → j ∉ vs ∧ owned ρ[j]? = true := fun j hj => by
    rw [g j] at hj
    by_cases q : j ∈ vs
    · rw [if_pos q] at hj
      cases e : ρ[j]? with
      | none => rw [e] at hj; cases hj
      | some x => rw [e] at hj; cases hj
    · rw [if_neg q] at hj
      exact ⟨q, hj⟩
  refine ⟨by rw [wipe_length, wip_length]; exact w.len, w.fh, w.rh, w.dis, fun j x e => ?_, fun i j p hne h1 h2 h3 h4 => ?_, fun j d e => ?_, fun j p hp => ?_, w.tb⟩
  · rw [g j] at e
    rw [wipe_get]
    by_cases q : j ∈ vs
    · rw [if_pos q] at e
      cases e2 : ρ[j]? with
      | none => rw [e2] at e; cases e
      | some y => rw [e2] at e; cases e; trivial
    · rw [if_neg q] at e ⊢
      exact w.slot j x e
  · obtain ⟨n1, o1⟩ := no i h1
    obtain ⟨n2, o2⟩ := no j h2
    rw [wipe_get, if_neg n1] at h3
    rw [wipe_get, if_neg n2] at h4
    exact w.sep i j p hne o1 o2 h3 h4
  · obtain ⟨n1, o1⟩ := no j (by rw [e]; rfl)
    rw [g j, if_neg n1] at e
    exact w.io j d e
  · obtain ⟨⟨d, e⟩, e2⟩ := w.pin j p hp
    have n1 : j ∉ vs := fun q => by
      have := ow j q
      rw [e] at this
      cases this
    exact ⟨⟨d, by rw [g j, if_neg n1]; exact e⟩, by rw [wipe_get, if_neg n1]; exact e2⟩
/-- behind the block -/
theorem unwiped (w0 : Wf c π F1 R H1 σ ρ1) (h : okW 0 vs ρ1 = true) (s : Same F1 F) (w : Wf c π F R H (wipe σ vs) ρ) : Wf c π F R H σ (rest 0 vs ρ1 ρ) := by
  have hl : ρ1.length = ρ.length := by rw [← w0.len, ← w.len, wipe_length]
  have g := fun j => rest_get 0 vs ρ1 ρ hl j
  simp only [Nat.zero_add] at g
  have ow := fun j => okW_get 0 vs ρ1 h j
  simp only [Nat.zero_add] at ow
  have no : ∀ j, owned (rest 0 vs ρ1 ρ)[j]? = true → j ∉ vs ∧ owned ρ[j]? = true := fun j hj => by
    rw [g j] at hj
    by_cases q : j ∈ vs
    · rw [if_pos q, ow j q] at hj
      cases hj
    · rw [if_neg q] at hj
      exact ⟨q, hj⟩
  have wg : ∀ j, j ∉ vs → (wipe σ vs)[j]? = σ[j]? := fun j q => by rw [wipe_get, if_neg q]
  refine ⟨by rw [rest_length _ _ _ _ hl, ← w.len, wipe_length], w.fh, w.rh, w.dis, fun j x e => ?_, fun i j p hne h1 h2 h3 h4 => ?_, fun j d e => ?_, fun j p hp => ?_, w.tb⟩
  · rw [g j] at e
    by_cases q : j ∈ vs
    · rw [if_pos q] at e
      have z := w0.slot j x e
      have nx := ow j q
      rw [e] at nx
      cases x with
      | un => trivial
      | val d => obtain ⟨v, a, b⟩ := z; exact ⟨v, a, b.mono s⟩
      | own d => cases nx
      | io d => cases nx
      | thk r => obtain ⟨v, a, b⟩ := z; exact ⟨v, a, c.Gm _ _ _ _ s b⟩
    · rw [if_neg q] at e
      rw [← wg j q]
      exact w.slot j x e
  · obtain ⟨n1, o1⟩ := no i h1
    obtain ⟨n2, o2⟩ := no j h2
    rw [← wg i n1] at h3
    rw [← wg j n2] at h4
    exact w.sep i j p hne o1 o2 h3 h4
  · obtain ⟨n1, o1⟩ := no j (by rw [e]; rfl)
    rw [g j, if_neg n1] at e
    exact w.io j d e
  · obtain ⟨⟨d, e⟩, e2⟩ := w.pin j p hp
    have n1 : j ∉ vs := fun q => by
      rw [wipe_get, if_pos q] at e2
      cases z : σ[j]? with
      | none => rw [z] at e2; cases e2
      | some y => rw [z] at e2; cases e2
    exact ⟨⟨d, by rw [g j, if_neg n1]; exact e⟩, by rw [← wg j n1]; exact e2⟩
/-- an object of nobody, kept by the frame -/
theorem Wf.frame (w : Wf c π F R H σ ρ) (e : H p = some o) (ho : ∀ ps, o ≠ .tbl ps) (hox : ∀ f, o ≠ .ext f) (n : F p = none) (h : ∀ (i : Nat), owned ρ[i]? = true → σ[i]? ≠ some (some (V.ref p))) : Wf c π F (upd R p o) H σ ρ := by
  refine ⟨w.len, w.fh, fun b u q => ?_, fun q hq => ?_, fun i x q => ?_, w.sep, w.io, w.pin, ⟨w.tb.tabs, w.tb.f, fun q ps z => ?_, fun q f z => ?_⟩⟩
  · by_cases z : b = p
    · subst z; rw [upd_same] at q; cases q; exact e
    · rw [upd_ne z] at q; exact w.rh _ _ q
  · by_cases z : q = p
    · subst z; exact n
    · rw [upd_ne z] at hq; exact w.dis q hq
  · have z := w.slot i x q
    have ow : ∀ p' d, owned ρ[i]? = true → σ[i]? = some (some (.ref p')) → Own c F R H p' d → Own c F (upd R p o) H p' d := fun p' d h1 h2 r => by
      have np : p' ≠ p := fun z => h i h1 (z ▸ h2)
      cases d with
      | lst ds => obtain ⟨a, b, r⟩ := r; exact ⟨a, by rw [upd_ne np]; exact b, r⟩
      | dct ks ds => obtain ⟨a, b, r⟩ := r; exact ⟨a, by rw [upd_ne np]; exact b, r⟩
      | ins n ks ds => obtain ⟨a, b, r⟩ := r; exact ⟨a, by rw [upd_ne np]; exact b, r⟩
      | _ => exact r.elim
    cases x with
    | own d => obtain ⟨p', a, b⟩ := z; exact ⟨p', a, ow p' d (by rw [q]; rfl) a b⟩
    | io d => obtain ⟨p', a, b⟩ := z; exact ⟨p', a, ow p' d (by rw [q]; rfl) a b⟩
    | un => trivial
    | val d => exact z
    | thk r => exact z
  · by_cases y : q = p
    · subst y; rw [upd_same] at z; exact ho ps (Option.some.inj z)
    · rw [upd_ne y] at z; exact w.tb.r q ps z
  · by_cases y : q = p
    · subst y; rw [upd_same] at z; exact hox f (Option.some.inj z)
    · rw [upd_ne y] at z; exact w.tb.rx q f z
theorem Wf.unframe (w : Wf c π F (upd R p o) H σ ρ) (n : R p = none) : Wf c π F R H σ ρ ∧ H p = some o ∧ F p = none ∧ ∀ (i : Nat), owned ρ[i]? = true → σ[i]? ≠ some (some (V.ref p)) := by
  have s := same_upd (o := o) n
  refine ⟨⟨w.len, w.fh, s.trans w.rh, fun q hq => ?_, fun i x q => ?_, w.sep, w.io, w.pin, ⟨w.tb.tabs, w.tb.f, fun q ps z => w.tb.r q ps (s _ _ z), fun q f z => w.tb.rx q f (s _ _ z)⟩⟩, w.rh _ _ upd_same, w.dis p (by rw [upd_same]; simp), fun i hi e => ?_⟩
  · refine w.dis q ?_
    cases e : R q with
    | none => exact absurd e hq
    | some u => rw [s _ _ e]; simp
  · have z := w.slot i x q
    have ow : ∀ p' d, Own c F (upd R p o) H p' d → Own c F R H p' d := fun p' d r => by
      have nn : ∀ {p'}, upd R p o p' = none → R p' = none := fun {p'} h => s.free h
      cases d with
      | lst ds => obtain ⟨a, b, r⟩ := r; exact ⟨a, nn b, r⟩
      | dct ks ds => obtain ⟨a, b, r⟩ := r; exact ⟨a, nn b, r⟩
      | ins n ks ds => obtain ⟨a, b, r⟩ := r; exact ⟨a, nn b, r⟩
      | _ => exact r.elim
    cases x with
    | own d => obtain ⟨p', a, b⟩ := z; exact ⟨p', a, ow p' d b⟩
    | io d => obtain ⟨p', a, b⟩ := z; exact ⟨p', a, ow p' d b⟩
    | un => trivial
    | val d => exact z
    | thk r => exact z
  · obtain ⟨p', d, e1, r⟩ := own_of hi w
    rw [e] at e1
    cases e1
    have := r.free.2.1
    rw [upd_same] at this
    cases this
/-- the framed object is written -/
theorem Wf.poke {o' : HO} (ho : ∀ ps, o ≠ .tbl ps) (ho2 : ∀ f, o ≠ .ext f) (ho' : ∀ ps, o' ≠ .tbl ps) (ho2' : ∀ f, o' ≠ .ext f) (w : Wf c π F (upd R p o) H σ ρ) (n : R p = none) : Wf c π F (upd R p o') (upd H p o') σ ρ := by
  obtain ⟨w1, h1, h2, h3⟩ := w.unframe n
  have w2 : Wf c π F R (upd H p o') σ ρ := by
    refine ⟨w1.len, fun b u q => ?_, fun b u q => ?_, w1.dis, fun i x q => ?_, w1.sep, w1.io, w1.pin, ⟨tabs_mut w1.tb.tabs h1 ho ho2, w1.tb.f, w1.tb.r, w1.tb.rx⟩⟩
    · rw [upd_ne (ne_of_none q h2)]; exact w1.fh _ _ q
    · rw [upd_ne (ne_of_none q n)]; exact w1.rh _ _ q
    · have z := w1.slot i x q
      cases x with
      | own d => obtain ⟨p', a, b⟩ := z; exact ⟨p', a, b.mono (.refl _) b.free.1 (upd_ne fun e => h3 i (by rw [q]; rfl) (e ▸ a))⟩
      | io d => obtain ⟨p', a, b⟩ := z; exact ⟨p', a, b.mono (.refl _) b.free.1 (upd_ne fun e => h3 i (by rw [q]; rfl) (e ▸ a))⟩
      | un => trivial
      | val d => exact z
      | thk r => exact z
  exact w2.frame upd_same ho' ho2' h2 h3
/-! ### the block -/
def W0 : WX := fun _ _ _ _ => False
def yesT : En → Out Bool := fun ρ => .ok true ρ
def lcL (g : D → En → Option En) (t : En → Out Bool) (e : En → Out D) (vs : List Nat) : List D → En → Option (List D × En)
  | [], ρ => some ([], ρ)
  | d :: ds, ρ => match g d ρ with
    | none => none
    | some ρ1 => match t ρ1 with
      | .ok true ρ2 => (match e ρ2 with
        | .ok y ρ3 => if okW 0 vs ρ3 = true then (lcL g t e vs ds (wip 0 vs ρ3)).bind fun r => some (y :: r.1, r.2) else none
        | _ => none)
      | .ok false ρ2 => if okW 0 vs ρ2 = true then lcL g t e vs ds (wip 0 vs ρ2) else none
      | _ => none
def lcS (fi : En → Out (List D)) (g : D → En → Option En) (t : En → Out Bool) (e : En → Out D) (vs : List Nat) : En → Out D := fun ρ => (fi ρ).bind fun ds ρ1 =>
  if okW 0 vs ρ1 = true ∧ ds.length ≤ 4096 then (match lcL g t e vs ds (wip 0 vs ρ1) with
    | some (ys, ρ2) => .ok (.lst ys) (rest 0 vs ρ1 ρ2)
    | none => .no) else .no
theorem lcL_short {g : D → En → Option En} {t : En → Out Bool} {e : En → Out D} {vs : List Nat} : ∀ {ds : List D} {ρ : En} {r : List D × En}, lcL g t e vs ds ρ = some r → r.1.length ≤ ds.length
  | [], ρ, r, h => by cases h; exact Nat.le_refl _
  | d :: ds, ρ, r, h => by
    unfold lcL at h
    split at h
    · cases h
    · split at h
      · split at h
        · split at h
          · obtain ⟨r', h1, h2⟩ := Option.bind_eq_some_iff.mp h
            cases h2
            have := lcL_short h1
            simp only [List.length_cons]
            omega
          · cases h
        · cases h
      · split at h
        · have := lcL_short h
          simp only [List.length_cons]
          omega
        · cases h
      · cases h
theorem wipe_wipe {σ σ' : L2.St} {is vs : List Nat} (hv : ∀ j ∈ is, j ∈ vs) (hl : σ'.length = (wipe σ vs).length) (h : ∀ j, j ∉ is → σ'[j]? = (wipe σ vs)[j]?) : wipe σ' vs = wipe σ vs := by
  have hl' : σ'.length = σ.length := by rw [hl, wipe_length]
  apply List.ext_getElem?
  intro j
  rw [wipe_get, wipe_get]
  by_cases q : j ∈ vs
  · rw [if_pos q, if_pos q]
    by_cases z : j < σ.length
    · rw [List.getElem?_eq_getElem z, List.getElem?_eq_getElem (hl'.symm ▸ z)]; rfl
    · rw [List.getElem?_eq_none (Nat.le_of_not_lt z), List.getElem?_eq_none (by omega)]
  · rw [if_neg q, if_neg q, h j (fun z => q (hv j z)), wipe_get, if_neg q]
theorem lc_read {fi : En → Out (List D)} {is : List Nat} {g : D → En → Option En} {t : En → Out Bool} {e : En → Out D} {Q : VK} (hv : ∀ j ∈ is, j ∈ vs) (h : tF c W () (lcS fi g t e vs) σ H Q) : tLc (tI c W fi) (tG c is g) (tB c W0 t) (tE c W0 e) vs σ H Q := by
  obtain ⟨π, F, R, ρ, w, h⟩ := h
  unfold tLc
  refine tX.mk w (Post.bind h) fun J ds ρ1 F1 H1 _ s1 w1 wk k1 => ?_
  intro A hA
  by_cases ok : okW 0 vs ρ1 = true ∧ ds.length ≤ 4096
  case neg => rw [if_neg ok] at k1; exact k1.elim
  rw [if_pos ok] at k1
  cases q : lcL g t e vs ds (wip 0 vs ρ1) with
  | none => rw [q] at k1; exact k1.elim
  | some r =>
    obtain ⟨all, ρe⟩ := r
    rw [q] at k1
    obtain ⟨w2, n1, n2, n3⟩ := fresh_new (o := .lst []) w1 hA
    have w3 := (wiped w2 ok.1).frame upd_same (fun _ => nofun) (fun _ => nofun) n1 (by
      intro i hi ei
      rw [wip_get] at hi
      rw [wipe_get] at ei
      simp only [Nat.zero_add] at hi
      by_cases z : i ∈ vs
      · rw [if_pos z] at hi
        cases e2 : ρ1[i]? with
        | none => rw [e2] at hi; cases hi
        | some x => rw [e2] at hi; cases hi
      · rw [if_neg z] at hi ei
        exact n3 i hi ei)
    have hall := lcL_short q
    refine lc_it wk (fun i H => ∃ F' ρ' acc accD ys, Same F1 F' ∧ Wf c π F' (upd R A (.lst acc)) H (wipe σ vs) ρ' ∧ Reps c F' acc accD ∧ lcL g t e vs (ds.drop i) ρ' = some (ys, ρe) ∧ accD ++ ys = all) ⟨F1, _, [], [], all, .refl _, w3, .nil, by simpa using q, rfl⟩ (fun i H _ => ?_) (fun i x H H' hi => ?_) (fun H => ?_)
    · rintro ⟨F', ρ', acc, accD, ys, s, w', _⟩
      exact s.trans w'.fh
    · rintro ⟨F', ρ', acc, accD, ys, s, w', ra, hq, ha⟩ hy
      obtain ⟨F3, d, gr, ed, rd⟩ := hy F' s w'.fh
      have ed' : ds.drop i = d :: ds.drop (i + 1) := by
        rw [List.drop_eq_getElem_cons hi]
        congr 1
        rw [List.getElem?_eq_getElem hi] at ed
        exact Option.some.inj ed
      rw [ed'] at hq
      unfold lcL at hq
      cases qg : g d ρ' with
      | none => rw [qg] at hq; cases hq
      | some ρ2 =>
        rw [qg] at hq
        dsimp only at hq
        refine ⟨π, F3, _, ρ', d, ρ2, w'.grow gr, rd, qg, fun σ2 w4 l4 a4 => ?_⟩
        have ww : wipe σ2 vs = wipe σ vs := wipe_wipe hv l4 a4
        refine ⟨ww, ?_⟩
        have accl : acc.length < sizeLine := by
          refine Nat.lt_of_le_of_lt ?_ (show 4096 < sizeLine by rw [sizeLine_eq]; decide)
          have e1 := congrArg List.length ha
          rw [List.length_append] at e1
          have e2 := ra.length
          have e3 : all.length ≤ ds.length := hall
          omega
        have back : ∀ {σ' : L2.St} {ρ' : En} {F' H' : Hp} {acc : List V}, Wf c π F' (upd R A (.lst acc)) H' σ' ρ' → okW 0 vs ρ' = true → wipe σ' vs = wipe σ vs → Wf c π F' (upd R A (.lst acc)) H' (wipe σ vs) (wip 0 vs ρ') := fun {σ' ρ' F' H' acc} w okk e => by
          rw [← e]
          exact wiped w okk
        cases qt : t ρ2 with
        | no => rw [qt] at hq; cases hq
        | exc n ks ds ρ3 => rw [qt] at hq; cases hq
        | ok b ρ3 =>
          rw [qt] at hq
          refine ⟨π, F3, _, ρ2, w4, ?_⟩
          rw [qt]
          intro F5 H5 s5 w5 b' hb
          subst hb
          cases b' with
          | false =>
            dsimp only at hq
            rw [if_neg Bool.false_ne_true]
            by_cases z : okW 0 vs ρ3 = true
            · rw [if_pos z] at hq
              exact ⟨F5, _, acc, accD, ys, (s.trans gr.f).trans s5, back w5 z ww, (ra.mono gr.f).mono s5, hq, ha⟩
            · rw [if_neg z] at hq; cases hq
          | true =>
            dsimp only at hq
            rw [if_pos rfl]
            cases qe : e ρ3 with
            | no => rw [qe] at hq; cases hq
            | exc n ks ds ρ3 => rw [qe] at hq; cases hq
            | ok y ρ4 =>
              rw [qe] at hq
              dsimp only at hq
              refine ⟨π, F5, _, ρ3, w5, ?_⟩
              rw [qe]
              intro F6 H6 s6 w6 v rv
              by_cases z : okW 0 vs ρ4 = true
              · rw [if_pos z] at hq
                obtain ⟨r', h1, h2⟩ := Option.bind_eq_some_iff.mp hq
                cases h2
                refine ⟨acc, w6.rh _ _ upd_same, accl, F6, _, acc ++ [v], accD ++ [y], r'.1, ((s.trans gr.f).trans s5).trans s6, back (w6.poke (by intro _ h; cases h) (by intro _ h; cases h) (by intro _ h; cases h) (by intro _ h; cases h) n2) z ww, (((ra.mono gr.f).mono s5).mono s6).app (.cons rv .nil), h1, by rw [← ha]; simp⟩
              · rw [if_neg z] at hq; cases hq
    · rintro ⟨F', ρ', acc, accD, ys, s, w', ra, hq, ha⟩
      rw [List.drop_length] at hq
      cases hq
      obtain ⟨w5, e1, e2, e3⟩ := w'.unframe n2
      have w6 := unwiped w1 ok.1 s w5
      have ha : accD = all := by simpa using ha
      subst ha
      refine k1 F' H s w6 A ⟨⟨e2, n2, acc, e1, ra⟩, fun i hi ei => ?_⟩
      have hl : ρ1.length = ρe.length := by rw [← w1.len, ← w5.len, wipe_length]
      rw [rest_get 0 vs ρ1 ρe hl] at hi
      simp only [Nat.zero_add] at hi
      by_cases z : i ∈ vs
      · rw [if_pos z] at hi
        have := okW_get 0 vs ρ1 ok.1 i (by simpa using z)
        rw [hi] at this
        cases this
      · rw [if_neg z] at hi
        exact e3 i hi (by rw [wipe_get, if_neg z]; exact ei)
end
end Kd
/-! ## comprehensions as expressions; what a def promises -/
namespace Kd
open PySem PySem.Spec PyProof.Rows L2 Kq StX
variable {c : Cn}
section
variable {W : WX} {X : Cx} {π : List (Nat × Addr)} {F F1 F' R H H1 H' : Hp} {σ σ' : L2.St} {ρ ρ1 ρ' : En} {i : Nat} {p : Addr} {d : D} {o : HO} {e elt tg iter : Expr} {f : En → Out D}
theorem tF_of {Q : VK} (h : tE c W f σ H Q) : tF c W () f σ H Q := by
  obtain ⟨π, F, R, ρ, w, h⟩ := h
  refine ⟨π, F, R, ρ, w, ?_⟩
  cases q : f ρ with
  | no => rw [q] at h; exact h
  | exc n ks ds ρ1 => rw [q] at h; exact h
  | ok d ρ1 =>
    rw [q] at h
    intro F1 H1 s1 w1 p fr
    obtain ⟨F2, s2, w2, r⟩ := fr.fix w1
    exact h F2 H1 (s1.trans s2) w2 _ r
theorem de_f (h : DF c X W e f) : DE c X W e f := h.imp fun σ H Q => tF_of
variable {ifs : List Expr} {scope : Scope} {own : List (Str × Nat)} {pos spos py : Pos} {fi : En → Out (List D)} {is : List Nat} {g : D → En → Option En} {t : En → Out Bool} {fe : En → Out D}
abbrev DTs (c : Cn) (X : Cx) (W : WX) (es : List Expr) (f : En → Out Bool) : Prop := PTs X es (tB c W f)
theorem dts_nil : DTs c X W [] yesT := ⟨fun pins s σ H Q I h => by
  obtain ⟨π, F, R, ρ, w, h⟩ := h
  exact wpAny_tests_nil ⟨H, I, h F H (.refl _) w true rfl⟩⟩
theorem df_lc (hc : X.calm = true) (hN : X.N.Nodup) (hi : DI c X W tg iter fi) (ok : BlkOk X.N X.env.scope scope own)
    (hg : ∀ (s : Shared) (H : Hp) (C : Addr) (cl : List (Str × Addr)) (fp : List Addr), DG c (X.blk s H scope (compEnvC scope cl C X.env) fp) tg is g) (ht : ∀ (s : Shared) (H : Hp) (C : Addr) (cl : List (Str × Addr)) (fp : List Addr), DTs c (X.blk s H scope (compEnvC scope cl C X.env) fp) W0 ifs t)
    (he : ∀ (s : Shared) (H : Hp) (C : Addr) (cl : List (Str × Addr)) (fp : List Addr), DE c (X.blk s H scope (compEnvC scope cl C X.env) fp) W0 elt fe) (hv : ∀ j ∈ is, j ∈ own.map (·.2) := by decide) (hs : ∀ x, foldedSetIterable iter X.env x = pure x := by intro _; rfl) :
    DF c X W (.ListComp elt [⟨tg, iter, ifs, 0⟩] scope pos) (lcS fi g t fe (own.map (·.2))) := (pe_lc hc hN hi ok hg ht he hs).imp fun _ _ _ h => lc_read hv h
theorem df_asgR {i : Nat} {D' : Ends} {f : En → Out D} (h : tS c W (asgS i f) D' σ H) : tE c W f σ H fun x H1 => gName i x σ H1 D'.nx := by
  obtain ⟨π, F, R, ρ, w, h⟩ := h
  exact tX.mk w (PostS.toS h) fun x d ρ1 F1 H1 _ s1 w1 ra k1 => asg_k w1 ra k1
theorem ds_asgLc (i : Nat) {y : Str} (hc : X.calm = true) (hN : X.N.Nodup) (hy : X.N[i]? = some y) (hyl : X.env.scope.names.lookup y = some .local)
    (hsw : swapsWith (.ListComp elt [⟨tg, iter, ifs, 0⟩] scope pos) (some (.Name y py)) spos.line X.env = pure true) (hi : DI c X W tg iter fi) (ok : BlkOk X.N X.env.scope scope own)
    (hg : ∀ (s : Shared) (H : Hp) (C : Addr) (cl : List (Str × Addr)) (fp : List Addr), DG c (X.blk s H scope (compEnvC scope cl C X.env) fp) tg is g) (ht : ∀ (s : Shared) (H : Hp) (C : Addr) (cl : List (Str × Addr)) (fp : List Addr), DTs c (X.blk s H scope (compEnvC scope cl C X.env) fp) W0 ifs t)
    (he : ∀ (s : Shared) (H : Hp) (C : Addr) (cl : List (Str × Addr)) (fp : List Addr), DE c (X.blk s H scope (compEnvC scope cl C X.env) fp) W0 elt fe) (hv : ∀ j ∈ is, j ∈ own.map (·.2) := by decide) (hs : ∀ x, foldedSetIterable iter X.env x = pure x := by intro _; rfl) :
    DS c X W (.Assign [.Name y py] (.ListComp elt [⟨tg, iter, ifs, 0⟩] scope pos) spos) (asgS i (lcS fi g t fe (own.map (·.2)))) := (ps_setLc hc hN hy hyl hsw hi ok hg ht he hs).imp fun D' σ H h => lc_read hv (tF_of (df_asgR h))
end
/-! ### what a def promises -/
inductive FOut where
  | ret (fr : Bool) (d : D) (as : En) | exc (n : Str) (ks : List Str) (ds : List D) (as : En) | no
abbrev Fn := En → FOut
def PostF (c : Cn) (π : List (Nat × Addr)) (F R : Hp) (vs : List V) (o : FOut) (Q : VK) (E : XK) : Prop := match o with
  | .ret fr d as' => ∀ v F' H', Same F F' → Wf c π F' R H' (vs.map some) as' → RetRep c fr F' R H' (vs.map some) as' v d → Q v H'
  | .exc n ks ds as' => ∀ C a F' H', n ∈ c.xs → c.mg n = some (.ref C) → Same F F' → Wf c π F' R H' (vs.map some) as' → ExF c F' a ks ds → E (.ref C) a H'
  | .no => False
def noOwn (as : En) : Prop := ∀ (i : Nat) d, as[i]? ≠ some (.own d)
def spD (c : Cn) (n : Nat) (Fs : Fn) : Sp := fun vs H Q E => vs.length = n ∧ ∃ π F R as, Wf c π F R H (vs.map some) as ∧ noOwn as ∧ PostF c π F R vs (Fs as) Q E
/-- the arguments behind the body -/
def mrg : En → En → En
  | a :: as, x :: xs => (if isIo (some a) = true then x else a) :: mrg as xs
  | as, [] => as
  | [], _ => []
def bodyF (m : Nat) (b : En → SOut) : Fn := fun as => match b (as ++ List.replicate (m - as.length) .un) with
  | .nx ρ => .ret false .non (mrg as ρ)
  | .rt fr d ρ => .ret fr d (mrg as ρ)
  | .exc n ks ds ρ => .exc n ks ds (mrg as ρ)
  | _ => .no
theorem mrg_length : ∀ (as ρ : En), (mrg as ρ).length = as.length
  | [], [] => rfl
  | [], _ :: _ => rfl
  | _ :: _, [] => rfl
  | _ :: as, _ :: ρ => congrArg Nat.succ (mrg_length as ρ)
theorem mrg_not : ∀ (as ρ : En) (i : Nat) (a : SV), as[i]? = some a → isIo (some a) = false → (mrg as ρ)[i]? = some a
  | [], _, _, _, h, _ => by cases h
  | a :: as, [], _, _, h, _ => h
  | a :: as, x :: xs, 0, _, h, hn => by
    simp at h; subst h
    show some _ = _
    rw [hn]
    rfl
  | a :: as, x :: xs, i + 1, b, h, hn => mrg_not as xs i b (by simpa using h) hn
theorem mrg_io : ∀ (as ρ : En) (i : Nat) (a x : SV), as[i]? = some a → isIo (some a) = true → ρ[i]? = some x → (mrg as ρ)[i]? = some x
  | [], _, _, _, _, h, _, _ => by cases h
  | a :: as, [], _, _, _, h, _, hx => by cases hx
  | a :: as, x :: xs, 0, _, _, h, hn, hx => by
    simp at h hx; subst h hx
    show some _ = _
    rw [hn]
    rfl
  | a :: as, x :: xs, i + 1, b, y, h, hn, hx => mrg_io as xs i b y (by simpa using h) hn (by simpa using hx)
section
variable {P : Program} {w : World} {K : PySem.W.Frag} {mg : Str → Option Value} {base : Heap}
variable {π : List (Nat × Addr)} {F F' R H H' : Hp} {vs : List V} {as ρ : En} {σ : L2.St} {N : List Str}
theorem start_wf (wf : Wf c π F R H (vs.map some) as) (hl : vs.length ≤ N.length) : Wf c π F R H (L2.start N vs) (as ++ List.replicate (N.length - as.length) .un) := by
  have el : vs.length = as.length := by simpa using wf.len
  have sg : ∀ i, i < as.length → (L2.start N vs)[i]? = (vs.map some)[i]? := fun i hi => by
    unfold L2.start
    rw [List.getElem?_append_left (by simpa [el] using hi)]
  have ag : ∀ i x, (as ++ List.replicate (N.length - as.length) SV.un)[i]? = some x → x = .un ∨ (i < as.length ∧ as[i]? = some x) := fun i x e => by
    by_cases q : i < as.length
    · rw [List.getElem?_append_left q] at e; exact .inr ⟨q, e⟩
    · rw [List.getElem?_append_right (by omega)] at e
      exact .inl (List.eq_of_mem_replicate (List.mem_of_getElem? e))
  have ow : ∀ i, owned (as ++ List.replicate (N.length - as.length) SV.un)[i]? = true → i < as.length ∧ owned as[i]? = true := fun i h => by
    cases e : (as ++ List.replicate (N.length - as.length) SV.un)[i]? with
    | none => rw [e] at h; cases h
    | some x =>
      rw [e] at h
      rcases ag i x e with z | ⟨z1, z2⟩
      · rw [z] at h; cases h
      · exact ⟨z1, by rw [z2]; exact h⟩
  refine ⟨by unfold L2.start; simp; omega, wf.fh, wf.rh, wf.dis, fun i x e => ?_, fun i j p hne h1 h2 h3 h4 => ?_, fun i d e => ?_, fun i p hp => ?_, wf.tb⟩
  · rcases ag i x e with rfl | ⟨q, e2⟩
    · trivial
    · rw [sg i q]; exact wf.slot i x e2
  · obtain ⟨l1, o1⟩ := ow i h1
    obtain ⟨l2, o2⟩ := ow j h2
    rw [sg i l1] at h3
    rw [sg j l2] at h4
    exact wf.sep i j p hne o1 o2 h3 h4
  · rcases ag i _ e with z | ⟨q, e2⟩
    · cases z
    · exact wf.io i d e2
  · obtain ⟨⟨d, e⟩, e2⟩ := wf.pin i p hp
    have hi : i < as.length := (List.getElem?_eq_some_iff.mp e).1
    exact ⟨⟨d, by rw [List.getElem?_append_left hi]; exact e⟩, by rw [sg i hi]; exact e2⟩
/-- the arguments at the end -/
theorem end_wf (w0 : Wf c π F R H (vs.map some) as) (no : noOwn as) (s : Same F F') (w1 : Wf c π F' R H' σ ρ) : Wf c π F' R H' (vs.map some) (mrg as ρ) ∧ ∀ (i : Nat), owned (mrg as ρ)[i]? = true → owned ρ[i]? = true ∧ (vs.map some)[i]? = σ[i]? := by
  have pn : ∀ i, isIo as[i]? = true → ∃ p d, (i, p) ∈ π ∧ (vs.map some)[i]? = some (some (.ref p)) ∧ ρ[i]? = some (.io d) ∧ σ[i]? = some (some (.ref p)) ∧ (mrg as ρ)[i]? = some (.io d) := fun i hi => by
    cases e : as[i]? with
    | none => rw [e] at hi; cases hi
    | some a =>
      rw [e] at hi
      cases a with
      | io d0 =>
        obtain ⟨p, hp⟩ := w0.io i d0 e
        obtain ⟨_, e2⟩ := w0.pin i p hp
        obtain ⟨⟨d, e3⟩, e4⟩ := w1.pin i p hp
        exact ⟨p, d, hp, e2, e3, e4, mrg_io _ _ _ _ _ e rfl e3⟩
      | _ => cases hi
  have nio : ∀ i a, as[i]? = some a → isIo (some a) = false → (mrg as ρ)[i]? = some a := fun i a e h => mrg_not _ _ _ _ e h
  have ow : ∀ (i : Nat), owned (mrg as ρ)[i]? = true → isIo as[i]? = true := fun i h => by
    cases e : as[i]? with
    | none =>
      rw [List.getElem?_eq_none (by rw [mrg_length]; exact List.getElem?_eq_none_iff.mp e)] at h
      cases h
    | some a =>
      cases a with
      | io d => rfl
      | own d => exact absurd e (no i d)
      | un => rw [nio i _ e rfl] at h; cases h
      | val d => rw [nio i _ e rfl] at h; cases h
      | thk r => rw [nio i _ e rfl] at h; cases h
  refine ⟨⟨by rw [mrg_length]; exact w0.len, w1.fh, w1.rh, w1.dis, fun i x e => ?_, fun i j p hne h1 h2 h3 h4 => ?_, fun i d e => ?_, fun i p hp => ?_, w1.tb⟩, fun i h => ?_⟩
  · cases ea : as[i]? with
    | none =>
      rw [List.getElem?_eq_none (by rw [mrg_length]; exact List.getElem?_eq_none_iff.mp ea)] at e
      cases e
    | some a =>
      cases a with
      | io d0 =>
        obtain ⟨p, d, hp, e1, e2, e3, e4⟩ := pn i (by rw [ea]; rfl)
        rw [e4] at e
        cases e
        rw [e1, ← e3]
        exact w1.slot i _ e2
      | own d => exact absurd ea (no i d)
      | un => rw [nio i _ ea rfl] at e; cases e; trivial
      | val d =>
        rw [nio i _ ea rfl] at e
        cases e
        obtain ⟨v, a1, a2⟩ := w0.slot i _ ea
        exact ⟨v, a1, a2.mono s⟩
      | thk r =>
        rw [nio i _ ea rfl] at e
        cases e
        obtain ⟨v, a1, a2⟩ := w0.slot i _ ea
        exact ⟨v, a1, c.Gm _ _ _ _ s a2⟩
  · have a1 := ow i h1
    have a2 := ow j h2
    have o1 : owned as[i]? = true := by
      cases e : as[i]? with
      | none => rw [e] at a1; cases a1
      | some a => rw [e] at a1; cases a <;> first | rfl | cases a1
    have o2 : owned as[j]? = true := by
      cases e : as[j]? with
      | none => rw [e] at a2; cases a2
      | some a => rw [e] at a2; cases a <;> first | rfl | cases a2
    exact w0.sep i j p hne o1 o2 h3 h4
  · obtain ⟨p, d', hp, _⟩ := pn i (ow i (by rw [e]; rfl))
    exact ⟨p, hp⟩
  · obtain ⟨⟨d0, e⟩, e2⟩ := w0.pin i p hp
    obtain ⟨q, d, _, _, _, _, e4⟩ := pn i (by rw [e]; rfl)
    exact ⟨⟨d, e4⟩, e2⟩
  · obtain ⟨p, d, hp, e1, e2, e3, e4⟩ := pn i (ow i h)
    exact ⟨by rw [e2]; rfl, e1.trans e3.symm⟩
/-- a body's reading gives the promise -/
theorem body_k {m : Nat} {b : En → SOut} {Q : VK} {E : XK} (hm : N.length = m) (wf : Wf c π F R H (vs.map some) as) (no : noOwn as) (hl : vs.length ≤ N.length) (h : PostF c π F R vs (bodyF m b as) Q E) :
    tS c (fun cls d _ H => E cls d H) b { nx := fun _ H' => Q .non H', rt := Q } (L2.start N vs) H := by
  subst hm
  refine ⟨π, F, R, _, start_wf wf hl, ?_⟩
  have el : vs.length = as.length := by simpa using wf.len
  unfold bodyF at h
  cases q : b (as ++ List.replicate (N.length - as.length) .un) with
  | nx ρ =>
    rw [q] at h
    exact fun σ' F' H' s w => h _ F' H' s (end_wf wf no s w).1 .non
  | rt fr d ρ =>
    rw [q] at h
    intro v σ' F' H' s w r
    obtain ⟨w1, w2⟩ := end_wf wf no s w
    refine h v F' H' s w1 ?_
    cases fr with
    | false => exact r
    | true =>
      obtain ⟨p, e, fr⟩ := r
      refine ⟨p, e, fr.1, fun i hi ei => ?_⟩
      obtain ⟨h1, h2⟩ := w2 i hi
      exact fr.2 i h1 (h2 ▸ ei)
  | exc n ks ds ρ =>
    rw [q] at h
    exact fun σ' C a F' H' i m s w x => h C a F' H' i m s (end_wf wf no s w).1 x
  | bk ρ => rw [q] at h; exact h.elim
  | ct ρ => rw [q] at h; exact h.elim
  | no => rw [q] at h; exact h.elim
end
end Kd
/-! ## defs and their calls -/
namespace Kd
open PySem PySem.Spec PyProof.Rows L2 Kq StX ClX
variable {c : Cn}
/-- called with positional arguments, by values -/
def FnV (P : Program) (w : World) (K : PySem.W.Frag) (mg : Str → Option Value) (base : Heap) (k : Nat) (f : Addr) (sp : Sp) : Prop :=
  ∀ (A : Around) (outer : List Env) (s : Shared) (H : Hp) (us : List Value) (vs : List V) (Q : VK) (E : XK), A.guards = some [] → Room k A → Env0 P w K mg base A outer s H → Vals vs us → sp vs H Q E →
    codeAny (model P w) A (.call (.ref f) ⟨us, []⟩) (CR (L2.CX P w) outer P w H s Q E) s
/-- def f(self, *words): what is behind the first n goes into a tuple -/
def vals : En → Option (List D)
  | [] => some []
  | .val d :: as => (vals as).bind fun ds => some (d :: ds)
  | _ => none
section
variable {P : Program} {w : World} {K : PySem.W.Frag} {mg : Str → Option Value} {base : Heap} {k : Nat} {f : Addr} {fd : FuncData} {N ps : List Str} {x qual : Str} {st : Stmt} {b : En → SOut}
/-- the wish of a def's body -/
abbrev WE (E : XK) : WX := fun cls d _ H => E cls d H
abbrev cxD (P : Program) (w : World) (K : PySem.W.Frag) (mg : Str → Option Value) (base : Heap) (N : List Str) (qual : Str) (st : Stmt) (f : Addr) (cdv : Value) (A : Around) (outer : List Env) (s : Shared) (H : Hp) (E : XK) : Cx := cxOf (L2.CX P w) P w K mg base N qual (defScope st) f cdv A outer s H E
theorem fnD (F : Fun K x qual st f fd) (S : FnScope N ps (defScope st))
    (hb : ∀ (cdv : Value) (A : Around) (outer : List Env) (s : Shared) (H : Hp) (E : XK), (A.deeper (envOfC qual (defScope st) s.heap.objs.size f cdv)).guards = some [] → Room k (A.deeper (envOfC qual (defScope st) s.heap.objs.size f cdv)) →
      DSs c (cxD P w K mg base N qual st f cdv A outer s H E) (WE E) (defBody st) b) :
    FnG P w K mg base (L2.CX P w) (k + 1) f fd ps (spD c ps.length (bodyF N.length b)) := by
  refine Kq.Fun.okG F S (fun vs H Q E h => h.1) fun cdv A outer s H vs Q E hgd hr h => ?_
  obtain ⟨hl, π, F', R, as, wf, no, hp⟩ := h
  refine ⟨_, hb cdv A outer s H E hgd hr, body_k rfl wf no ?_ hp⟩
  have := congrArg List.length S.pre
  rw [List.length_take] at this
  omega
def defF (n m : Nat) (b : En → SOut) : Fn := fun as => if as.length = n then bodyF m b as else .no
def spV (c : Cn) (Fs : Fn) : Sp := fun vs H Q E => ∃ π F R as, Wf c π F R H (vs.map some) as ∧ noOwn as ∧ PostF c π F R vs (Fs as) Q E
theorem FnG.toV {sp : Sp} (F : FnG P w K mg base (L2.CX P w) k f fd ps sp) (hb : Binds K fd ps []) : FnV P w K mg base k f sp := by
  intro A outer s H us vs Q E hgd hr e0 r hsp
  have hl : us.length = ps.length := by rw [← r.length]; exact F.len _ _ _ _ hsp
  have KX : K.In s.heap := e0.mod.kin.keeps fun b o e => (e0.bs b o e).1
  have hb1 := hb s us KX (by simpa using hl)
  rw [List.append_nil] at hb1
  exact F.run A outer s H ⟨us, []⟩ us vs Q E hgd hr e0 hb1 r hsp
end
theorem FnV.imp {P : Program} {w : World} {K : PySem.W.Frag} {mg : Str → Option Value} {base : Heap} {k : Nat} {f : Addr} {sp sp' : Sp} (F : FnV P w K mg base k f sp) (h : ∀ vs H Q E, sp' vs H Q E → sp vs H Q E) : FnV P w K mg base k f sp' :=
  fun A outer s H us vs Q E g hr e0 r q => F A outer s H us vs Q E g hr e0 r (h _ _ _ _ q)
theorem FnV.mono {P : Program} {w : World} {K : PySem.W.Frag} {mg : Str → Option Value} {base : Heap} {j k : Nat} {f : Addr} {sp : Sp} (F : FnV P w K mg base j f sp) (h : j ≤ k) : FnV P w K mg base k f sp :=
  fun A outer s H us vs Q E g hr e0 r q => F A outer s H us vs Q E g (hr.mono h) e0 r q
section
variable {P : Program} {w : World} {K : PySem.W.Frag} {mg : Str → Option Value} {base : Heap} {k : Nat} {f : Addr} {fd : FuncData} {N ps : List Str} {x qual : Str} {st : Stmt} {b : En → SOut}
/-- a def of positional parameters -/
theorem fnV (F : Fun K x qual st f fd) (S : FnScope N ps (defScope st)) (hbi : Binds K fd ps [])
    (hb : ∀ (cdv : Value) (A : Around) (outer : List Env) (s : Shared) (H : Hp) (E : XK), (A.deeper (envOfC qual (defScope st) s.heap.objs.size f cdv)).guards = some [] → Room k (A.deeper (envOfC qual (defScope st) s.heap.objs.size f cdv)) →
      DSs c (cxD P w K mg base N qual st f cdv A outer s H E) (WE E) (defBody st) b) :
    FnV P w K mg base (k + 1) f (spV c (defF ps.length N.length b)) := by
  refine FnV.imp (FnG.toV (fnD F S hb) hbi) fun vs H Q E h => ?_
  obtain ⟨π, F', R, as, wf, no, hp⟩ := h
  unfold defF at hp
  by_cases q : as.length = ps.length
  · rw [if_pos q] at hp
    exact ⟨by have := wf.len; simp at this; omega, π, F', R, as, wf, no, hp⟩
  · rw [if_neg q] at hp; exact hp.elim
end
end Kd
/-! ## defs with *words; calls -/
namespace Kd
open PySem PySem.Spec PyProof.Rows L2 Kq StX ClX
end Kd
/-! ## the frame of a call -/
namespace Kd
open PySem PySem.Spec PyProof.Rows L2 Kq StX ClX
variable {c : Cn}
inductive Ar where
  | v (d : D) | io (i : Nat) | th (r : R0)
def RepA (c : Cn) (F : Hp) (σ : L2.St) (v : V) : Ar → Prop
  | .v d => Rep c F v d
  | .io i => σ[i]? = some (some v)
  | .th r => c.G F v r
def argSV (ρ : En) : Ar → Option SV
  | .v d => some (.val d)
  | .io i => match ρ[i]? with
    | some (.own d) => some (.io d)
    | some (.io d) => some (.io d)
    | _ => none
  | .th r => some (.thk r)
def argSVs (ρ : En) : List Ar → Option En
  | [] => some []
  | a :: as => (argSV ρ a).bind fun x => (argSVs ρ as).bind fun xs => some (x :: xs)
def ios : List Ar → List Nat
  | [] => []
  | .io i :: as => i :: ios as
  | _ :: as => ios as
def upA (ρ : En) : List Ar → En → En
  | .io i :: r, x :: xs => (match ρ[i]?, x with
    | some y, .io d => (upA ρ r xs).set i (keepK y d)
    | _, _ => upA ρ r xs)
  | _ :: r, _ :: xs => upA ρ r xs
  | _, _ => ρ
section
variable {π : List (Nat × Addr)} {F F' R R' H H' : Hp} {σ : L2.St} {ρ as as' : En} {vs : List V} {ars : List Ar}
theorem mem_ios : ∀ {ars : List Ar} {j i : Nat}, ars[j]? = some (.io i) → i ∈ ios ars
  | [], _, _, h => by cases h
  | a :: as, 0, i, h => by cases h; exact List.mem_cons_self
  | a :: as, j + 1, i, h => by
    have := mem_ios (ars := as) (j := j) (i := i) h
    cases a with
    | io k => exact List.mem_cons_of_mem _ this
    | v d => exact this
    | th r => exact this
theorem of_ios : ∀ {ars : List Ar} {i : Nat}, i ∈ ios ars → ∃ (j : Nat), ars[j]? = some (Ar.io i)
  | [], _, h => by cases h
  | a :: as, i, h => by
    have go : i ∈ ios as → ∃ (j : Nat), (a :: as)[j]? = some (Ar.io i) := fun h => by
      obtain ⟨j, e⟩ := of_ios h
      exact ⟨j + 1, e⟩
    cases a with
    | io k =>
      rcases List.mem_cons.mp h with z | z
      · subst z; exact ⟨0, rfl⟩
      · exact go z
    | v d => exact go h
    | th r => exact go h
theorem ios_inj : ∀ {ars : List Ar} {j k i : Nat}, (ios ars).Nodup → ars[j]? = some (.io i) → ars[k]? = some (.io i) → j = k
  | [], _, _, _, _, h, _ => by cases h
  | a :: as, 0, 0, i, _, _, _ => rfl
  | a :: as, 0, k + 1, i, nd, h1, h2 => by
    cases h1
    have := mem_ios (ars := as) (j := k) h2
    exact absurd this (List.nodup_cons.mp nd).1
  | a :: as, j + 1, 0, i, nd, h1, h2 => by
    cases h2
    have := mem_ios (ars := as) (j := j) h1
    exact absurd this (List.nodup_cons.mp nd).1
  | a :: as, j + 1, k + 1, i, nd, h1, h2 => by
    have nd' : (ios as).Nodup := by
      cases a with
      | io k => exact (List.nodup_cons.mp nd).2
      | v d => exact nd
      | th r => exact nd
    exact congrArg Nat.succ (ios_inj nd' h1 h2)
theorem upA_length : ∀ (ars : List Ar) (as' : En), (upA ρ ars as').length = ρ.length
  | [], _ => rfl
  | .v d :: r, [] => rfl
  | .io i :: r, [] => rfl
  | .th d :: r, [] => rfl
  | .v d :: r, x :: xs => upA_length r xs
  | .th d :: r, x :: xs => upA_length r xs
  | .io i :: r, x :: xs => by
    unfold upA
    split
    · rw [List.length_set]; exact upA_length r xs
    · exact upA_length r xs
theorem upA_out {i : Nat} : ∀ {ars : List Ar} {as' : En}, i ∉ ios ars → (upA ρ ars as')[i]? = ρ[i]?
  | [], _, _ => rfl
  | .v d :: r, [], _ => rfl
  | .io i :: r, [], _ => rfl
  | .th d :: r, [], _ => rfl
  | .v d :: r, x :: xs, h => upA_out (ars := r) (as' := xs) h
  | .th d :: r, x :: xs, h => upA_out (ars := r) (as' := xs) h
  | .io k :: r, x :: xs, h => by
    have h1 : i ≠ k := fun z => h (z ▸ List.mem_cons_self)
    have h2 : i ∉ ios r := fun z => h (List.mem_cons_of_mem _ z)
    unfold upA
    split
    · rw [List.getElem?_set_ne (Ne.symm h1)]; exact upA_out h2
    · exact upA_out h2
theorem upA_in {i : Nat} {y : SV} {d : D} (hy : ρ[i]? = some y) : ∀ {ars : List Ar} {as' : En} {j : Nat}, (ios ars).Nodup → ars[j]? = some (.io i) → as'[j]? = some (.io d) → (upA ρ ars as')[i]? = some (keepK y d)
  | [], _, _, _, h, _ => by cases h
  | _ :: _, [], _, _, _, h => by cases h
  | a :: r, x :: xs, 0, nd, h1, h2 => by
    cases h1
    cases h2
    unfold upA
    rw [hy]
    exact List.getElem?_set_self (by rw [upA_length]; exact (List.getElem?_eq_some_iff.mp hy).1)
  | a :: r, x :: xs, j + 1, nd, h1, h2 => by
    have go : (ios r).Nodup → (upA ρ r xs)[i]? = some (keepK y d) := fun nd => upA_in hy nd h1 h2
    cases a with
    | v d => exact go nd
    | th d => exact go nd
    | io k =>
      have nd' := List.nodup_cons.mp nd
      have hk : k ≠ i := fun z => nd'.1 (z ▸ mem_ios (ars := r) (j := j) h1)
      unfold upA
      split
      · rw [List.getElem?_set_ne hk]; exact go nd'.2
      · exact go nd'.2
theorem Own.reR {p : Addr} {d : D} (r : Own c F R H p d) (n : R' p = none) : Own c F R' H p d := by
  cases d with
  | lst ds => obtain ⟨a, b, r⟩ := r; exact ⟨a, n, r⟩
  | dct ks ds => obtain ⟨a, b, r⟩ := r; exact ⟨a, n, r⟩
  | ins x ks ds => obtain ⟨a, b, r⟩ := r; exact ⟨a, n, r⟩
  | _ => exact r.elim
theorem args_get : ∀ {ars : List Ar} {as : En} {vs : List V}, Paired (RepA c F σ) vs ars → argSVs ρ ars = some as → vs.length = as.length ∧ ∀ (j : Nat) (a : SV), as[j]? = some a → ∃ r v, ars[j]? = some r ∧ vs[j]? = some v ∧ RepA c F σ v r ∧ argSV ρ r = some a
  | _, as, _, .nil, e => by cases e; exact ⟨rfl, fun j a h => by cases h⟩
  | _, as, _, .cons (a := v) (b := r) (l₂ := rs) h1 h2, e => by
    obtain ⟨x, e1, e2⟩ := Option.bind_eq_some_iff.mp e
    obtain ⟨xs, e3, e4⟩ := Option.bind_eq_some_iff.mp e2
    cases e4
    obtain ⟨g1, g2⟩ := args_get h2 e3
    refine ⟨congrArg Nat.succ g1, fun j a h => ?_⟩
    cases j with
    | zero => cases h; exact ⟨r, v, rfl, rfl, h1, e1⟩
    | succ j => exact g2 j a h
theorem argSV_io {r : Ar} {d : D} (h : argSV ρ r = some (.io d)) : ∃ i, r = .io i ∧ owned ρ[i]? = true ∧ cont ρ[i]? = some d := by
  cases r with
  | v d' => cases h
  | th d' => cases h
  | io i =>
    refine ⟨i, rfl, ?_⟩
    unfold argSV at h
    dsimp only at h
    cases e : ρ[i]? with
    | none => rw [e] at h; cases h
    | some y => rw [e] at h; cases y <;> first | (cases h; exact ⟨rfl, rfl⟩) | cases h
theorem argSV_own {r : Ar} {d : D} (h : argSV ρ r = some (.own d)) : False := by
  cases r with
  | v d' => cases h
  | th d' => cases h
  | io i =>
    unfold argSV at h
    dsimp only at h
    split at h <;> cases h
theorem own_cont {i : Nat} {d : D} (w : Wf c π F R H σ ρ) (h : owned ρ[i]? = true) (e : cont ρ[i]? = some d) : ∃ p, σ[i]? = some (some (.ref p)) ∧ Own c F R H p d := by
  cases q : ρ[i]? with
  | none => rw [q] at h; cases h
  | some y =>
    have z := w.slot i y q
    rw [q] at h e
    cases y with
    | own d' => cases e; exact z
    | io d' => cases e; exact z
    | _ => cases h
open Classical in
theorem call_frame (w : Wf c π F R H σ ρ) (ra : Paired (RepA c F σ) vs ars) (e : argSVs ρ ars = some as) (nd : (ios ars).Nodup) : ∃ π' R', Wf c π' F R' H (vs.map some) as ∧ noOwn as ∧
    ∀ as' F' H', Same F F' → Wf c π' F' R' H' (vs.map some) as' → Wf c π F' R H' σ (upA ρ ars as') ∧ ∀ p d, Fresh c F' R' H' (vs.map some) as' p d → Fresh c F' R H' σ (upA ρ ars as') p d := by
  obtain ⟨hl, ag⟩ := args_get ra e
  -- what the others own
  let oth : Addr → Prop := fun p => ∃ i, i ∉ ios ars ∧ owned ρ[i]? = true ∧ σ[i]? = some (some (.ref p))
  let R' : Hp := fun p => if oth p then H p else R p
  have R1 : ∀ p, oth p → R' p = H p := fun p h => if_pos h
  have R2 : ∀ p, ¬ oth p → R' p = R p := fun p h => if_neg h
  have oR : ∀ p, oth p → R p = none ∧ F p = none ∧ ∃ u, H p = some u := fun p ⟨i, _, h1, h2⟩ => by
    obtain ⟨q, d, e1, o⟩ := own_of h1 w
    rw [h2] at e1
    cases e1
    obtain ⟨a, b, u⟩ := o.free
    exact ⟨b, a, u⟩
  have RR : ∀ p u, R p = some u → R' p = some u := fun p u h => by
    rw [R2 p (fun z => by rw [(oR p z).1] at h; cases h)]
    exact h
  -- the arguments that are passed on
  have io_ : ∀ (j : Nat) (d : D), as[j]? = some (.io d) → ∃ i p, ars[j]? = some (.io i) ∧ owned ρ[i]? = true ∧ σ[i]? = some (some (.ref p)) ∧ (vs.map some)[j]? = some (some (.ref p)) ∧ Own c F R H p d := fun j d h => by
    obtain ⟨r, v, h1, h2, h3, h4⟩ := ag j _ h
    obtain ⟨i, rfl, ho, hc⟩ := argSV_io h4
    obtain ⟨p, h5, h6⟩ := own_cont w ho hc
    have h3 : σ[i]? = some (some v) := h3
    rw [h5] at h3
    cases h3
    exact ⟨i, p, h1, ho, h5, by rw [List.getElem?_map, h2]; rfl, h6⟩
  have no : noOwn as := fun j d h => by
    obtain ⟨r, v, h1, h2, h3, h4⟩ := ag j _ h
    exact argSV_own h4
  have ow : ∀ (j : Nat), owned as[j]? = true → ∃ d, as[j]? = some (.io d) := fun j h => by
    cases q : as[j]? with
    | none => rw [q] at h; cases h
    | some y =>
      rw [q] at h
      cases y with
      | io d => exact ⟨d, rfl⟩
      | own d => exact absurd q (no j d)
      | _ => cases h
  let π' : List (Nat × Addr) := (List.range as.length).filterMap fun (j : Nat) => match as[j]?, vs[j]? with
    | some (SV.io _), some (V.ref p) => some (j, p)
    | _, _ => none
  have mp : ∀ j p, (j, p) ∈ π' ↔ (∃ d, as[j]? = some (.io d)) ∧ (vs.map some)[j]? = some (some (.ref p)) := fun j p => by
    constructor
    · intro h
      obtain ⟨k, hk, h⟩ := List.mem_filterMap.mp h
      split at h
      · rename_i d q h1 h2
        cases h
        exact ⟨⟨_, h1⟩, by rw [List.getElem?_map, h2]; rfl⟩
      · cases h
    · rintro ⟨⟨d, h1⟩, h2⟩
      refine List.mem_filterMap.mpr ⟨j, List.mem_range.mpr (List.getElem?_eq_some_iff.mp h1).1, ?_⟩
      rw [List.getElem?_map] at h2
      cases h3 : vs[j]? with
      | none => rw [h3] at h2; cases h2
      | some v => rw [h3] at h2; cases h2; rw [h1]
  have w1 : Wf c π' F R' H (vs.map some) as := by
    refine ⟨by simpa using hl, w.fh, fun p u h => ?_, fun p h => ?_, fun j a h => ?_, fun j k p hne h1 h2 h3 h4 => ?_, fun j d h => ?_, fun j p h => ?_, ⟨w.tb.tabs, w.tb.f, fun p ps z => ?_, fun p f z => ?_⟩⟩
    · by_cases z : oth p
      · rwa [R1 p z] at h
      · rw [R2 p z] at h; exact w.rh _ _ h
    · by_cases z : oth p
      · exact (oR p z).2.1
      · rw [R2 p z] at h; exact w.dis p h
    · cases a with
      | un => trivial
      | own d => exact absurd h (no j d)
      | val d =>
        obtain ⟨r, v, h1, h2, h3, h4⟩ := ag j _ h
        cases r with
        | v d' => cases h4; exact ⟨v, by rw [List.getElem?_map, h2]; rfl, h3⟩
        | th r => cases h4
        | io i => unfold argSV at h4; dsimp only at h4; split at h4 <;> cases h4
      | thk r0 =>
        obtain ⟨r, v, h1, h2, h3, h4⟩ := ag j _ h
        cases r with
        | v d' => cases h4
        | th r => cases h4; exact ⟨v, by rw [List.getElem?_map, h2]; rfl, h3⟩
        | io i => unfold argSV at h4; dsimp only at h4; split at h4 <;> cases h4
      | io d =>
        obtain ⟨i, p, h1, h2, h3, h4, h5⟩ := io_ j d h
        refine ⟨p, h4, h5.reR ?_⟩
        rw [R2 p]
        · exact h5.free.2.1
        · rintro ⟨k, hk, h6, h7⟩
          exact w.sep k i p (fun z => hk (z ▸ mem_ios h1)) h6 h2 h7 h3
    · obtain ⟨d1, e1⟩ := ow j h1
      obtain ⟨d2, e2⟩ := ow k h2
      obtain ⟨i1, p1, a1, b1, c1, f1, _⟩ := io_ j d1 e1
      obtain ⟨i2, p2, a2, b2, c2, f2, _⟩ := io_ k d2 e2
      rw [h3] at f1
      rw [h4] at f2
      cases f1
      cases f2
      have : i1 ≠ i2 := fun z => hne (ios_inj nd a1 (z ▸ a2))
      exact w.sep i1 i2 p this b1 b2 c1 c2
    · obtain ⟨i, p, h1, h2, h3, h4, h5⟩ := io_ j d h
      exact ⟨p, (mp j p).mpr ⟨⟨d, h⟩, h4⟩⟩
    · exact (mp j p).mp h
    · by_cases y : oth p
      · rw [R1 p y] at z
        obtain ⟨i, _, h1, h2⟩ := y
        obtain ⟨q, d, e1, o⟩ := own_of h1 w
        rw [h2] at e1
        cases e1
        cases d with
        | lst ds => obtain ⟨_, _, xs, e, _⟩ := o; rw [z] at e; cases e
        | dct ks ds => obtain ⟨_, _, xs, e, _⟩ := o; rw [z] at e; cases e
        | ins n ks ds => obtain ⟨_, _, C, dx, fs, _, _, e, _⟩ := o; rw [z] at e; cases e
        | _ => exact o.elim
      · rw [R2 p y] at z
        exact w.tb.r p ps z
    · by_cases y : oth p
      · rw [R1 p y] at z
        obtain ⟨i, _, h1, h2⟩ := y
        obtain ⟨q, d, e1, o⟩ := own_of h1 w
        rw [h2] at e1
        cases e1
        cases d with
        | lst ds => obtain ⟨_, _, xs, e, _⟩ := o; rw [z] at e; cases e
        | dct ks ds => obtain ⟨_, _, xs, e, _⟩ := o; rw [z] at e; cases e
        | ins n ks ds => obtain ⟨_, _, C, dx, fs, _, _, e, _⟩ := o; rw [z] at e; cases e
        | _ => exact o.elim
      · rw [R2 p y] at z
        exact w.tb.rx p f z
  refine ⟨π', R', w1, no, fun as' F' H' s w2 => ?_⟩
  -- what came back
  have back : ∀ (i : Nat), i ∈ ios ars → ∃ (j : Nat) (y : SV) (d : D) (p : Addr), ars[j]? = some (Ar.io i) ∧ ρ[i]? = some y ∧ owned (some y) = true ∧ as'[j]? = some (SV.io d) ∧ (vs.map some)[j]? = some (some (V.ref p)) ∧ σ[i]? = some (some (.ref p)) ∧ R p = none ∧ (upA ρ ars as')[i]? = some (keepK y d) := fun i hi => by
    obtain ⟨j, hj⟩ := of_ios hi
    have hjl : j < as.length := by
      have h1 : ars.length = as.length := by
        rw [← hl]
        exact (Paired.length ra).symm
      rw [← h1]
      exact (List.getElem?_eq_some_iff.mp hj).1
    obtain ⟨r, v, h1, h2, h3, h4⟩ := ag j _ (List.getElem?_eq_getElem hjl)
    rw [hj] at h1
    cases h1
    have hio : ∃ d, as[j] = SV.io d := by
      unfold argSV at h4
      dsimp only at h4
      split at h4
      · exact ⟨_, (Option.some.inj h4).symm⟩
      · exact ⟨_, (Option.some.inj h4).symm⟩
      · cases h4
    obtain ⟨d0, ed⟩ := hio
    have ea : as[j]? = some (.io d0) := by rw [List.getElem?_eq_getElem hjl, ed]
    obtain ⟨i', p, a1, a2, a3, a4, a5⟩ := io_ j d0 ea
    rw [hj] at a1
    cases a1
    obtain ⟨⟨d, e1⟩, e2⟩ := w2.pin j p ((mp j p).mpr ⟨⟨d0, ea⟩, a4⟩)
    cases ey : ρ[i]? with
    | none => rw [ey] at a2; cases a2
    | some y => exact ⟨j, y, d, p, hj, rfl, by rw [← ey]; exact a2, e1, a4, a3, a5.free.2.1, upA_in ey nd hj e1⟩
  have own_iff : ∀ (i : Nat), owned (upA ρ ars as')[i]? = true → owned ρ[i]? = true := fun i h => by
    by_cases z : i ∈ ios ars
    · obtain ⟨j, y, d, p, _, e1, e2, _⟩ := back i z
      rw [e1]; exact e2
    · rwa [upA_out z] at h
  have w3 : Wf c π F' R H' σ (upA ρ ars as') := by
    refine ⟨by rw [upA_length]; exact w.len, w2.fh, fun p u h => w2.rh _ _ (RR p u h), fun p h => ?_, fun i x h => ?_, fun i j p hne h1 h2 => w.sep i j p hne (own_iff i h1) (own_iff j h2), fun i d h => ?_, fun i p h => ?_, ⟨w2.tb.tabs, w2.tb.f, w.tb.r, w.tb.rx⟩⟩
    · cases q : R p with
      | none => exact absurd q h
      | some u => exact w2.dis p (by rw [RR p u q]; simp)
    · by_cases z : i ∈ ios ars
      · obtain ⟨j, y, d, p, _, e1, e2, e3, e4, e5, e6, e7⟩ := back i z
        rw [e7] at h
        cases h
        obtain ⟨p', f1, f2⟩ := w2.slot j _ e3
        rw [e4] at f1
        cases f1
        have o := f2.reR (R' := R) e6
        cases y with
        | own d' => exact ⟨p, e5, o⟩
        | io d' => exact ⟨p, e5, o⟩
        | _ => cases e2
      · rw [upA_out z] at h
        have sl := w.slot i x h
        have keep : ∀ p, owned ρ[i]? = true → σ[i]? = some (some (.ref p)) → F' p = none ∧ H' p = H p := fun p h1 h2 => by
          have ot : oth p := ⟨i, z, h1, h2⟩
          obtain ⟨_, _, u, hu⟩ := oR p ot
          have ru : R' p = some u := (R1 p ot).trans hu
          exact ⟨w2.dis p (by rw [ru]; simp), (w2.rh _ _ ru).trans hu.symm⟩
        cases x with
        | un => trivial
        | val d => obtain ⟨v, a, b⟩ := sl; exact ⟨v, a, b.mono s⟩
        | own d =>
          obtain ⟨p, a, b⟩ := sl
          obtain ⟨k1, k2⟩ := keep p (by rw [h]; rfl) a
          exact ⟨p, a, b.mono s k1 k2⟩
        | io d =>
          obtain ⟨p, a, b⟩ := sl
          obtain ⟨k1, k2⟩ := keep p (by rw [h]; rfl) a
          exact ⟨p, a, b.mono s k1 k2⟩
        | thk r => obtain ⟨v, a, b⟩ := sl; exact ⟨v, a, c.Gm _ _ _ _ s b⟩
    · by_cases z : i ∈ ios ars
      · obtain ⟨j, y, d', p, _, e1, e2, e3, e4, e5, e6, e7⟩ := back i z
        rw [e7] at h
        cases y with
        | io d0 => exact w.io i d0 e1
        | own d0 => cases h
        | _ => cases e2
      · rw [upA_out z] at h
        exact w.io i d h
    · obtain ⟨⟨d, e1⟩, e2⟩ := w.pin i p h
      refine ⟨?_, e2⟩
      by_cases z : i ∈ ios ars
      · obtain ⟨j, y, d', p, _, f1, f2, f3, f4, f5, f6, f7⟩ := back i z
        rw [e1] at f1
        cases f1
        exact ⟨d', f7⟩
      · rw [upA_out z]
        exact ⟨d, e1⟩
  refine ⟨w3, fun p d fr => ⟨fr.1.reR ?_, fun i hi ei => ?_⟩⟩
  · have := fr.1.free.2.1
    cases q : R p with
    | none => rfl
    | some u => rw [RR p u q] at this; cases this
  · by_cases z : i ∈ ios ars
    · obtain ⟨j, y, d', p', _, f1, f2, f3, f4, f5, f6, f7⟩ := back i z
      rw [ei] at f5
      cases f5
      exact fr.2 j (by rw [f3]; rfl) f4
    · have h1 : oth p := ⟨i, z, own_iff i hi, ei⟩
      have h2 := fr.1.free.2.1
      rw [R1 p h1] at h2
      obtain ⟨_, _, u, h3⟩ := oR p h1
      rw [h2] at h3
      cases h3
end
end Kd
/-! ## calls -/
namespace Kd
open PySem PySem.Spec PyProof.Rows L2 Kq StX ClX
variable {c : Cn}
/-- a written argument list, handed to whatever is called -/
def CwA (X : Cx) (es : List Expr) (pos : Pos) (t : TA) : Prop := ∀ (f : Value) (first : List Value) (Q : Value → Shared → Prop) (pins : List (Addr × Obj)) (s : Shared) (σ : L2.St) (H : Hp) (k : List V → Hp → Prop),
  PySem.W.keepIn X.K f = true → Inv X pins σ H s → t σ H k → (∀ us s1 vs H1, Inv X pins σ H1 s1 → Vals vs us → k vs H1 → wpAny (model X.prog X.w) X.A (call f (first ++ us)) Q X.xe s1) →
    wpAny (model X.prog X.w) X.A (callWith pos f first (backTo pos (starEach es X.env)) []) Q X.xe s
section
variable {X : Cx} {W : WX} {es : List Expr} {pos p : Pos} {t t' : TA} {e e2 : Expr} {te : TE}
theorem CwA.imp (h : CwA X es pos t) (i : ∀ σ H k, t' σ H k → t σ H k) : CwA X es pos t' := fun f first Q pins s σ H k hk I ht hq => h f first Q pins s σ H k hk I (i _ _ _ ht) hq
theorem cw_plain (ha : PA X (e :: es) t) (he : starEach (e :: es) X.env = (false, eval e X.env) :: starEach es X.env := by rfl) (hpl : (backTo pos (starEach es X.env)).any (·.1) = false := by rfl) : CwA X (e :: es) pos t := fun f first Q pins s σ H k hk I ht hq =>
  PySem.W.callWith_K (h₀ := X.base) I.ok.mod.kin hk (thn (ha.run pos pins s σ H _ I ht) fun us s1 ⟨vs, H1, I1, r, q⟩ => ⟨I1.kIn, hq us s1 vs H1 I1 r q⟩) he hpl
/-! ### arguments -/
abbrev tAr (c : Cn) (W : WX) (f : En → Out (List Ar)) : TA := tX c W f fun F _ σ _ vs ars => Paired (RepA c F σ) vs ars
abbrev DAr (c : Cn) (X : Cx) (W : WX) (es : List Expr) (f : En → Out (List Ar)) : Prop := PA X es (tAr c W f)
theorem RepA.mono {F F' : Hp} {σ : L2.St} {v : V} {a : Ar} (h : RepA c F σ v a) (s : Same F F') : RepA c F' σ v a := by
  cases a with
  | v d => exact Rep.mono s h
  | io i => exact h
  | th r => exact c.Gm _ _ _ _ s h
theorem RepAs.mono {F F' : Hp} {σ : L2.St} (s : Same F F') : ∀ {vs : List V} {as : List Ar}, Paired (RepA c F σ) vs as → Paired (RepA c F' σ) vs as
  | _, _, .nil => .nil
  | _, _, .cons h r => .cons (h.mono s) (RepAs.mono s r)
def valA (f : En → Out D) (g : En → Out (List Ar)) : En → Out (List Ar) := fun ρ => (f ρ).bind fun d ρ1 => (g ρ1).bind fun as ρ2 => .ok (.v d :: as) ρ2
def ioA (i : Nat) (g : En → Out (List Ar)) : En → Out (List Ar) := fun ρ => if owned ρ[i]? = true then (g ρ).bind fun as ρ2 => .ok (.io i :: as) ρ2 else .no
def seqD : D → Option (List D)
  | .lst ds => some ds
  | .tup ds => some ds
  | _ => none
def starA (f : En → Out D) (g : En → Out (List Ar)) : En → Out (List Ar) := fun ρ => (f ρ).bind fun d ρ1 => (lift (seqD d) ρ1).bind fun ds ρ1 => (g ρ1).bind fun as ρ2 => .ok (ds.map .v ++ as) ρ2
variable {f : En → Out D} {g : En → Out (List Ar)} {i : Nat} {n : Str}
theorem ar_nil : DAr c X W [] nilS := pa_nil.imp fun σ H Q => by
  rintro ⟨π, F, R, ρ, w, h⟩
  exact h F H (.refl _) w _ .nil
theorem ar_val (he : DE c X W e f) (hr : DAr c X W es g) (hs : starEach (e :: es) X.env = (false, eval e X.env) :: starEach es X.env := by rfl) : DAr c X W (e :: es) (valA f g) := (pa_cons he hr hs).imp fun σ H Q => by
  rintro ⟨π, F, R, ρ, w, h⟩
  unfold tCons
  refine tX.mk w (Post.bind h) fun x d ρ1 F1 H1 _ s1 w1 ra k1 => ?_
  refine tX.mk w1 (Post.bind k1) fun xs ds ρ2 F2 H2 _ s2 w2 rs k2 => ?_
  exact k2 F2 H2 (.refl _) w2 _ (.cons (Rep.mono s2 ra) rs)
theorem ar_io (i : Nat) (he : PE X e (tVar i)) (hr : DAr c X W es g) (hs : starEach (e :: es) X.env = (false, eval e X.env) :: starEach es X.env := by rfl) : DAr c X W (e :: es) (ioA i g) := (pa_cons he hr hs).imp fun σ H Q => by
  rintro ⟨π, F, R, ρ, w, h⟩
  unfold ioA at h
  by_cases q : owned ρ[i]? = true
  · rw [if_pos q] at h
    obtain ⟨p, d, e1, o⟩ := own_of q w
    refine ⟨_, e1, ?_⟩
    refine tX.mk w (Post.bind h) fun xs ds ρ2 F2 H2 _ s2 w2 rs k2 => ?_
    exact k2 F2 H2 (.refl _) w2 _ (.cons e1 rs)
  · rw [if_neg q] at h; exact h.elim
abbrev DW_ (c : Cn) (X : Cx) (W : WX) (es : List Expr) (pos : Pos) (g : En → Out (List Ar)) : Prop := CwA X es pos (tAr c W g)
/-! ### what is called -/
def rCall (c : Cn) (W : WX) (Fs : Fn) (σ : L2.St) (vs : List V) (H : Hp) (Q : VK) : Prop := ∃ π F R as, Wf c π F R H (vs.map some) as ∧ noOwn as ∧ PostF c π F R vs (Fs as) Q (fun cls d H' => W cls d σ H')
def CalD (c : Cn) (X : Cx) (W : WX) (f : Value) (Fs : Fn) : Prop := ∀ (pins : List (Addr × Obj)) (s : Shared) (σ : L2.St) (H : Hp) (vs : List V) (us : List Value) (Q : VK), Inv X pins σ H s → Vals vs us → rCall c W Fs σ vs H Q →
  wpAny (model X.prog X.w) X.A (call f us) (EP X pins σ Q) X.xe s
def callS (Fs : Fn) (fa : En → Out (List Ar)) : En → Out D := fun ρ => (fa ρ).bind fun ars ρ1 => if (ios ars).Nodup then (match argSVs ρ1 ars with
  | some as => (match Fs as with
    | .ret _ d as' => .ok d (upA ρ1 ars as')
    | .exc n ks ds as' => .exc n ks ds (upA ρ1 ars as')
    | .no => .no)
  | none => .no) else .no
/-- a call that gives something new -/
def callN (Fs : Fn) (fa : En → Out (List Ar)) : En → Out D := fun ρ => (fa ρ).bind fun ars ρ1 => if (ios ars).Nodup then (match argSVs ρ1 ars with
  | some as => (match Fs as with
    | .ret true d as' => .ok d (upA ρ1 ars as')
    | .exc n ks ds as' => .exc n ks ds (upA ρ1 ars as')
    | _ => .no)
  | none => .no) else .no
theorem call_k {Fs : Fn} {π : List (Nat × Addr)} {F R H : Hp} {σ : L2.St} {ρ : En} {vs : List V} {ars : List Ar} {Q : VK} {k : D → En → Hp → Hp → Prop} (w : Wf c π F R H σ ρ) (ra : Paired (RepA c F σ) vs ars)
    (h : Post c W π F R σ (if (ios ars).Nodup then (match argSVs ρ ars with
      | some as => (match Fs as with
        | .ret _ d as' => .ok d (upA ρ ars as')
        | .exc n ks ds as' => .exc n ks ds (upA ρ ars as')
        | .no => .no)
      | none => .no) else .no) k) (hk : ∀ v d ρ' F' H', Same F F' → Wf c π F' R H' σ ρ' → Rep c F' v d → k d ρ' F' H' → Q v H') : rCall c W Fs σ vs H Q := by
  by_cases nd : (ios ars).Nodup
  case neg => rw [if_neg nd] at h; exact h.elim
  rw [if_pos nd] at h
  cases e : argSVs ρ ars with
  | none => rw [e] at h; exact h.elim
  | some as =>
    rw [e] at h
    obtain ⟨π', R', w1, no, back⟩ := call_frame w ra e nd
    refine ⟨π', F, R', as, w1, no, ?_⟩
    dsimp only at h
    cases q : Fs as with
    | no => rw [q] at h; exact h.elim
    | exc n ks ds as' =>
      rw [q] at h
      exact fun C a F' H' i m s w2 x => h C a F' H' i m s (back as' F' H' s w2).1 x
    | ret fr d as' =>
      rw [q] at h
      intro v F' H' s w2 r
      obtain ⟨w3, fb⟩ := back as' F' H' s w2
      cases fr with
      | false => exact hk v d _ F' H' s w3 r (h F' H' s w3)
      | true =>
        obtain ⟨p, rfl, fr⟩ := r
        obtain ⟨F2, s2, w4, r2⟩ := (fb p d fr).fix w3
        exact hk _ d _ F2 H' (s.trans s2) w4 r2 (h F2 H' (s.trans s2) w4)
theorem callN_k {Fs : Fn} {π : List (Nat × Addr)} {F R H : Hp} {σ : L2.St} {ρ : En} {vs : List V} {ars : List Ar} {Q : VK} {k : D → En → Hp → Hp → Prop} (w : Wf c π F R H σ ρ) (ra : Paired (RepA c F σ) vs ars)
    (h : Post c W π F R σ (if (ios ars).Nodup then (match argSVs ρ ars with
      | some as => (match Fs as with
        | .ret true d as' => .ok d (upA ρ ars as')
        | .exc n ks ds as' => .exc n ks ds (upA ρ ars as')
        | _ => .no)
      | none => .no) else .no) k) (hk : ∀ p d ρ' F' H', Same F F' → Wf c π F' R H' σ ρ' → Fresh c F' R H' σ ρ' p d → k d ρ' F' H' → Q (.ref p) H') : rCall c W Fs σ vs H Q := by
  by_cases nd : (ios ars).Nodup
  case neg => rw [if_neg nd] at h; exact h.elim
  rw [if_pos nd] at h
  cases e : argSVs ρ ars with
  | none => rw [e] at h; exact h.elim
  | some as =>
    rw [e] at h
    obtain ⟨π', R', w1, no, back⟩ := call_frame w ra e nd
    refine ⟨π', F, R', as, w1, no, ?_⟩
    dsimp only at h
    cases q : Fs as with
    | no => rw [q] at h; exact h.elim
    | exc n ks ds as' =>
      rw [q] at h
      exact fun C a F' H' i m s w2 x => h C a F' H' i m s (back as' F' H' s w2).1 x
    | ret fr d as' =>
      rw [q] at h
      cases fr with
      | false => exact h.elim
      | true =>
        intro v F' H' s w2 r
        obtain ⟨w3, fb⟩ := back as' F' H' s w2
        obtain ⟨p, rfl, fr⟩ := r
        exact hk _ d _ F' H' s w3 (fb p d fr) (h F' H' s w3)
theorem call_i {Fs : Fn} {σ : L2.St} {H : Hp} {Q : VK} (h : tE c W (callS Fs g) σ H Q) : tAr c W g σ H fun vs H1 => rCall c W Fs σ vs H1 Q := by
  obtain ⟨π, F, R, ρ, w, h⟩ := h
  refine tX.mk w (Post.bind h) fun vs ars ρ1 F1 H1 _ s1 w1 ra k1 => ?_
  exact call_k w1 ra k1 fun v d ρ' F' H' _ _ r k => k v r
theorem callN_i {Fs : Fn} {σ : L2.St} {H : Hp} {Q : VK} (h : tF c W () (callN Fs g) σ H Q) : tAr c W g σ H fun vs H1 => rCall c W Fs σ vs H1 Q := by
  obtain ⟨π, F, R, ρ, w, h⟩ := h
  refine tX.mk w (Post.bind h) fun vs ars ρ1 F1 H1 _ s1 w1 ra k1 => ?_
  exact callN_k w1 ra k1 fun p d ρ' F' H' _ _ r k => k p r
variable {x : Str} {fa : Addr} {Fs : Fn} {np : Pos}
theorem pe_callD (hc : CalD c X W (.ref fa) Fs) (cw : CwA X es pos t) (hm : X.mg x = some (.ref fa)) (hk : PySem.W.keepIn X.K (.ref fa) = true) (hg : Gl X x := by rfl) (hdb : (x == ("__debug__" : Str)) = false := by decide) :
    PE X (.Call (.Name x np) es [] pos) (fun σ H Q => t σ H fun vs H1 => rCall c W Fs σ vs H1 Q) := ⟨fun pins s σ H Q I h => 
  wpAny_Call_Name_kw (ld_glob I hg hm (cw (.ref fa) [] _ pins s σ H _ hk I h fun us s1 vs H1 I1 r q => hc pins s1 σ H1 vs us Q I1 r q) hdb)⟩
theorem de_call (hc : CalD c X W (.ref fa) Fs) (cw : DW_ c X W es pos g) (hm : X.mg x = some (.ref fa)) (hk : PySem.W.keepIn X.K (.ref fa) = true) (hg : Gl X x := by rfl) (hdb : (x == ("__debug__" : Str)) = false := by decide) :
    DE c X W (.Call (.Name x np) es [] pos) (callS Fs g) := (pe_callD hc cw hm hk hg hdb).imp fun _ _ _ h => call_i h
theorem df_call (hc : CalD c X W (.ref fa) Fs) (cw : DW_ c X W es pos g) (hm : X.mg x = some (.ref fa)) (hk : PySem.W.keepIn X.K (.ref fa) = true) (hg : Gl X x := by rfl) (hdb : (x == ("__debug__" : Str)) = false := by decide) :
    DF c X W (.Call (.Name x np) es [] pos) (callN Fs g) := (pe_callD hc cw hm hk hg hdb).imp fun _ _ _ h => callN_i h
theorem calD_fn {k : Nat} (Fp : FnV X.prog X.w X.K X.mg X.base k fa (spV c Fs)) (hgd : X.A.guards = some []) (hr : Room k X.A) (tk : Takes X W) : CalD c X W (.ref fa) Fs := by
  rintro pins s σ H vs us Q I r ⟨π, F, R, as, w, no, h⟩
  refine wpAny_call (codeAny_mono (Fp X.A X.stack s H us vs Q (fun cls d H' => W cls d σ H') hgd hr I.env0 r ⟨π, F, R, as, w, no, h⟩) fun rs s' hq => ?_)
  cases rs with
  | error e => exact tk e s' (XE.of_call I (fun cls d H' h => h) hq)
  | ok fl =>
    cases fl with
    | ret u => exact I.after hq
    | next => exact False.elim hq
    | brk => exact False.elim hq
    | cont => exact False.elim hq
end
end Kd
/-! ## instances made; methods -/
namespace Kd
open PySem PySem.Spec PyProof.Rows L2 Kq StX ClX
variable {c : Cn}
section
variable {X : Cx} {W : WX} {k : Nat} {f C : Addr} {n : Str} {Fi : Fn}
/-! ### methods -/
variable {o : Expr} {es : List Expr} {pos apos p : Pos} {m : Str} {fo : En → Out Ar} {g : En → Out (List Ar)} {ta : TE} {t : TA}
def svD : SV → Option D
  | .val d => some d
  | .io d => some d
  | _ => none
def methS (tab : List (Str × Fn)) (m : Str) (fo : En → Out Ar) (fa : En → Out (List Ar)) : En → Out D := fun ρ => (fo ρ).bind fun r ρ1 => match (argSV ρ1 r).bind svD with
  | some (.ins n ks _) => if m ∈ ks then .no else (match tab.lookup n with
    | some Fs => callS Fs (fun ρ => (fa ρ).bind fun ars ρ2 => .ok (r :: ars) ρ2) ρ1
    | none => .no)
  | _ => .no
def valR (f : En → Out D) : En → Out Ar := fun ρ => (f ρ).bind fun d ρ1 => .ok (.v d) ρ1
def ioR (i : Nat) : En → Out Ar := fun ρ => if owned ρ[i]? = true then .ok (.io i) ρ else .no
end
end Kd
/-! ## classmethods, raise, isinstance, stores to fields -/
namespace Kd
open PySem PySem.Spec PyProof.Rows L2 Kq StX ClX
variable {c : Cn}
section
variable {X : Cx} {W : WX} {j k : Nat} {f fa C : Addr} {n m x : Str} {Fs : Fn} {o e : Expr} {es : List Expr} {pos apos p np : Pos} {g : En → Out (List Ar)} {i : Nat}
/-- cls(..), the class in the i-th slot -/
def clsS (i : Nat) (n : Str) (Fs : Fn) (fa : En → Out (List Ar)) : En → Out D := fun ρ => match ρ[i]? with
  | some (.val (.cls m)) => if m = n then callS Fs fa ρ else .no
  | _ => .no
/-- C.m(..), a classmethod -/
def cmS (n : Str) (Fs : Fn) (fa : En → Out (List Ar)) : En → Out D := callS Fs fun ρ => (fa ρ).bind fun ars ρ1 => .ok (.v (.cls n) :: ars) ρ1
/-! ### raise -/
def raiseS (n : Str) (ks : List Str) (fs : En → Out (List D)) : En → SOut := fun ρ => toS (fs ρ) fun ds ρ1 => if ds.length = ks.length then .exc n ks ds ρ1 else .no
theorem zip_map1 : ∀ {ks : List Str} {vs : List V}, vs.length = ks.length → (ks.zip vs).map (·.1) = ks
  | [], [], _ => rfl
  | k :: ks, v :: vs, h => by
    exact congrArg (k :: ·) (zip_map1 (by simpa using h))
  | [], _ :: _, h => by cases h
  | _ :: _, [], h => by cases h
theorem zip_map2 : ∀ {ks : List Str} {vs : List V}, vs.length = ks.length → (ks.zip vs).map (·.2) = vs
  | [], [], _ => rfl
  | k :: ks, v :: vs, h => by
    exact congrArg (v :: ·) (zip_map2 (by simpa using h))
  | [], _ :: _, h => by cases h
  | _ :: _, [], h => by cases h
theorem ds_raise {ks : List Str} {fs : En → Out (List D)} {pos2 : Pos} (hc : X.calm = true) (T : ErrK X.prog X.w X.K X.mg x C ks.length fun vs => ks.zip vs) (hm : c.mg = X.mg) (hx : x ∈ c.xs) (hr : Room k X.A) (tk : Takes X W) (ha : DA c X W (e :: es) fs) (hg : Gl X x := by rfl) (hdb : (x == ("__debug__" : Str)) = false := by decide)
    (he : starEach (e :: es) X.env = (false, eval e X.env) :: starEach es X.env := by rfl) (hpl : (backTo pos (starEach es X.env)).any (·.1) = false := by rfl) :
    DS c X W (.Raise (some (.Call (.Name x np) (e :: es) [] pos)) none pos2) (raiseS x ks fs) := (ps_raiseErr hc T hr tk ha hg hdb he hpl).imp fun D σ H => by
  rintro ⟨π, F, R, ρ, w, h⟩
  unfold tMkErr
  refine tX.mk w (PostS.toS h) fun vs ds ρ1 F1 H1 _ s1 w1 ra k1 => ?_
  by_cases hl : ds.length = ks.length
  · rw [if_pos hl] at k1
    have hv : vs.length = ks.length := ra.length.trans hl
    refine ⟨hv, fun d nd => ?_⟩
    have g := Grow.alloc (o := .xd (ks.zip vs)) w1.fh nd
    exact k1 σ C _ _ _ hx (by rw [hm]; exact T.gC) g.f (w1.grow g) (.inr ⟨d, _, rfl, upd_same, zip_map1 hv, by rw [zip_map2 hv]; exact ra.mono g.f⟩)
  · rw [if_neg hl] at k1; exact k1.elim
/-! ### isinstance -/
inductive TyK where
  | ty (t : String) | cl (n : Str)
def tyD : D → Option TyK
  | .non => some (.ty "NoneType")
  | .bl _ => some (.ty "bool")
  | .int _ => some (.ty "int")
  | .str _ => some (.ty "str")
  | .lst _ => some (.ty "list")
  | .tup _ => some (.ty "tuple")
  | .dct _ _ => some (.ty "dict")
  | .ins n _ _ => some (.cl n)
  | .exc n _ _ => some (.cl n)
  | _ => none
abbrev tys5 : List String := ["str", "list", "tuple", "int", "bool"]
/-- is the one a kind of the other; sup: the classes above -/
def isK (sup : Str → List Str) : TyK → D → Option Bool
  | .ty t, .ty u => if u ∈ tys5 then some (t == u || (t == "bool" && u == "int")) else none
  | .ty _, .cls _ => some false
  | .cl n, .cls m => some (decide (m ∈ sup n))
  | .cl _, .ty u => if u ∈ tys5 then some false else none
  | _, _ => none
/-- what is known of the classes -/
structure IsOk (c : Cn) (K : PySem.W.Frag) (sup : Str → List Str) : Prop where
  ins : ∀ n C, n ∈ c.cs → c.mg n = some (.ref C) → ∀ (H : Hp) b dx fs, H b = some (.ins C dx fs) → TyX K H (.ref b) (.ref C)
  exc : ∀ n C, n ∈ c.xs → c.mg n = some (.ref C) → ExcC K C
  one : ∀ n C m B, n ∈ c.cs ++ c.xs → c.mg n = some (.ref C) → m ∈ c.cs ++ c.xs → c.mg m = some (.ref B) → PySem.W.kitOne K (.ref C) (.ref B) = some (decide (m ∈ sup n))
  ty : ∀ t m B, t ∈ tys7 → m ∈ c.cs ++ c.xs → c.mg m = some (.ref B) → PySem.W.kitOne K (.type t) (.ref B) = some false
  cl : ∀ n C t, t ∈ tys5 → n ∈ c.cs ++ c.xs → c.mg n = some (.ref C) → PySem.W.kitOne K (.ref C) (.type t) = some false
theorem kit5 {K : PySem.W.Frag} {t u : String} (ht : t ∈ tys7) (hu : u ∈ tys5) : PySem.W.kitOne K (.type t) (.type u) = some (t == u || (t == "bool" && u == "int")) := by
  have go : ∀ t ∈ tys7, ∀ u ∈ tys5, kitB t u = some (t == u || (t == "bool" && u == "int")) := by decide +kernel
  exact kit_ty (go t ht u hu)
variable {K : PySem.W.Frag} {sup : Str → List Str} {F H : Hp}
/-- the class as a value of the model -/
def clsW (c : Cn) : D → Value → Prop
  | .ty u, w => w = .type u
  | .cls m, w => ∃ B, m ∈ c.cs ++ c.xs ∧ c.mg m = some (.ref B) ∧ w = .ref B
  | _, _ => False
theorem isK_ty (ok : IsOk c K sup) {t : String} {d : D} {w : Value} {b : Bool} (ht : t ∈ tys7) (hw : clsW c d w) (e : isK sup (.ty t) d = some b) : PySem.W.kitOne K (.type t) w = some b := by
  cases d with
  | ty u =>
    cases hw
    have e : (if u ∈ tys5 then some (t == u || (t == "bool" && u == "int")) else none) = some b := e
    by_cases hu : u ∈ tys5
    · rw [if_pos hu] at e; rw [kit5 ht hu]; exact e
    · rw [if_neg hu] at e; cases e
  | cls m =>
    obtain ⟨B, h1, h2, rfl⟩ := hw
    cases e
    exact ok.ty t m B ht h1 h2
  | _ => cases e
theorem isK_cl (ok : IsOk c K sup) {n : Str} {C : Addr} {d : D} {w : Value} {b : Bool} (hn : n ∈ c.cs ++ c.xs) (hm : c.mg n = some (.ref C)) (hw : clsW c d w) (e : isK sup (.cl n) d = some b) : PySem.W.kitOne K (.ref C) w = some b := by
  cases d with
  | ty u =>
    cases hw
    have e : (if u ∈ tys5 then some false else none) = some b := e
    by_cases hu : u ∈ tys5
    · rw [if_pos hu] at e; cases e; exact ok.cl n C u hu hn hm
    · rw [if_neg hu] at e; cases e
  | cls m =>
    obtain ⟨B, h1, h2, rfl⟩ := hw
    cases e
    exact ok.one n C m B hn hm h1 h2
  | _ => cases e
/-- the built-in type, or the class of an instance, as the rules ask -/
theorem tyX_of (ok : IsOk c K sup) {x : V} {d : D} {t : TyK} (hS : Same F H) (r : RepT c F H x d) (e : tyD d = some t) : (∃ u, t = .ty u ∧ u ∈ tys7 ∧ TyX K H x (.type u)) ∨ (∃ n C, t = .cl n ∧ n ∈ c.cs ++ c.xs ∧ c.mg n = some (.ref C) ∧ (TyX K H x (.ref C) ∨ ∃ a dd fs, x = .ref a ∧ H a = some (ExD (.ref C) dd a) ∧ XdOk H dd fs ∧ ExcC K C)) := by
  cases d with
  | non => cases e; cases r; exact .inl ⟨_, rfl, by decide, TyV.non.tyX⟩
  | bl b => cases e; cases r; exact .inl ⟨_, rfl, by decide, (TyV.bl b).tyX⟩
  | int b => cases e; cases r; exact .inl ⟨_, rfl, by decide, (TyV.int b).tyX⟩
  | str b => cases e; cases r; exact .inl ⟨_, rfl, by decide, (TyV.str b).tyX⟩
  | lst ds => cases e; obtain ⟨p, xs, rfl, e1, _⟩ := r; exact .inl ⟨_, rfl, by decide, (TyV.lst e1).tyX⟩
  | tup ds => cases e; cases r with | tup e1 _ => exact .inl ⟨_, rfl, by decide, (TyV.tup (hS _ _ e1)).tyX⟩
  | dct ks ds => cases e; obtain ⟨p, kvs, rfl, e1, _⟩ := r; exact .inl ⟨_, rfl, by decide, (TyV.dct e1).tyX⟩
  | ins n ks ds =>
    cases e
    obtain ⟨p, C, dx, fs, rfl, hn, hm, e1, _⟩ := r
    exact .inr ⟨n, C, rfl, List.mem_append_left _ hn, hm, .inl (ok.ins n C hn hm H p dx fs e1)⟩
  | exc n ks ds =>
    cases e
    cases r with
    | exc hn hm e1 e2 _ _ => exact .inr ⟨n, _, rfl, List.mem_append_right _ hn, hm, .inr ⟨_, _, _, rfl, hS _ _ e1, e2.mono hS, ok.exc n _ hn hm⟩⟩
  | _ => cases e
def anyK (sup : Str → List Str) (t : TyK) : List D → Option Bool
  | [] => some false
  | d :: ds => (isK sup t d).bind fun b => (anyK sup t ds).bind fun r => some (b || r)
def isExc : D → Bool
  | .exc _ _ _ => true
  | _ => false
def isiG (sup : Str → List Str) : List D → Option D
  | [x, .tup ds] => if isExc x = true then none else (tyD x).bind fun t => (anyK sup t ds).map .bl
  | [x, d] => (tyD x).bind fun t => (isK sup t d).map .bl
  | _ => none
theorem clsV_of {x : V} {d : D} {t : TyK} {b : Bool} (r : Rep c F x d) (h : isK sup t d = some b) : ∃ w, ClsV x w ∧ clsW c d w := by
  have hd : (∃ u, d = .ty u) ∨ ∃ m, d = .cls m := by
    cases d with
    | ty u => exact .inl ⟨u, rfl⟩
    | cls m => exact .inr ⟨m, rfl⟩
    | _ => cases t <;> cases h
  rcases hd with ⟨u, rfl⟩ | ⟨m, rfl⟩
  · cases r; exact ⟨_, .ty u, rfl⟩
  · cases r with
    | cls h1 h2 => exact ⟨_, .own _, _, h1, h2, rfl⟩
theorem kitAny_of {tw : Value} {t : TyK} (hone : ∀ d w b, clsW c d w → isK sup t d = some b → PySem.W.kitOne K tw w = some b) : ∀ {ds : List D} {xs : List V} {b : Bool}, Reps c F xs ds → anyK sup t ds = some b → ∃ ws, Paired ClsV xs ws ∧ PySem.W.kitAny K tw ws = some b
  | [], _, b, .nil, e => by cases e; exact ⟨[], .nil, rfl⟩
  | d :: ds, _, b, .cons r rs, e => by
    obtain ⟨b1, e1, e2⟩ := Option.bind_eq_some_iff.mp e
    obtain ⟨b2, e3, e4⟩ := Option.bind_eq_some_iff.mp e2
    cases e4
    obtain ⟨w, h1, h2⟩ := clsV_of r e1
    obtain ⟨ws, h3, h4⟩ := kitAny_of hone rs e3
    refine ⟨w :: ws, .cons h1 h3, kitAny_cons (hone d w b1 h2 e1) (fun z => ?_) fun z => ?_⟩
    · rw [z]; exact h4
    · rw [z]; rfl
theorem isi_link (ok : IsOk c K sup) : CaL c (fun xs H Q => rIsi K xs H Q ∨ rIsiT K xs H Q ∨ rIsX K xs H Q) (isiG sup) := by
  intro F H xs ds d Q hS rp e q
  match ds, xs, rp, e with
  | [a, b], [x, y], .cons r1 (.cons r2 .nil), e =>
    have two : ∀ (hb : ∀ ds, b ≠ .tup ds), (tyD a).bind (fun t => (isK sup t b).map .bl) = some d → rIsi K [x, y] H Q ∨ rIsiT K [x, y] H Q ∨ rIsX K [x, y] H Q := fun hb e => by
      obtain ⟨t, e1, e2⟩ := Option.bind_eq_some_iff.mp e
      obtain ⟨k, e3, e4⟩ := Option.map_eq_some_iff.mp e2
      subst e4
      have rb : Rep c F y b := by
        cases b <;> first | exact r2 | (cases t <;> cases e3)
      obtain ⟨w, h1, h2⟩ := clsV_of rb e3
      rcases tyX_of ok hS r1 e1 with ⟨u, rfl, hu, ht⟩ | ⟨n, C, rfl, hn, hm, hx⟩
      · exact .inl ⟨x, y, _, w, k, rfl, h1, ht, isK_ty ok hu h2 e3, q _ _ _ (.refl hS) (.bl _)⟩
      · have kk := isK_cl ok hn hm h2 e3
        rcases hx with hx | ⟨a', dd, fs, rfl, g1, g2, g3⟩
        · exact .inl ⟨x, y, _, w, k, rfl, h1, hx, kk, q _ _ _ (.refl hS) (.bl _)⟩
        · exact .inr (.inr ⟨a', C, dd, fs, y, w, k, rfl, fun u hu => h1.eq hu, g1, g2, g3, kk, q _ _ _ (.refl hS) (.bl _)⟩)
    cases b with
    | tup ds =>
      have e : (if isExc a = true then none else (tyD a).bind (fun t => (anyK sup t ds).map .bl)) = some d := e
      by_cases hx : isExc a = true
      · rw [if_pos hx] at e; cases e
      rw [if_neg hx] at e
      obtain ⟨t, e1, e2⟩ := Option.bind_eq_some_iff.mp e
      obtain ⟨k, e3, e4⟩ := Option.map_eq_some_iff.mp e2
      subst e4
      have r2 : Rep c F y (.tup ds) := r2
      cases r2 with
      | tup f1 f2 =>
        rcases tyX_of ok hS r1 e1 with ⟨u, rfl, hu, ht⟩ | ⟨n, C, rfl, hn, hm, hx2⟩
        · obtain ⟨ws, g1, g2⟩ := kitAny_of (K := K) (tw := .type u) (fun d w b h1 h2 => isK_ty ok hu h1 h2) f2 e3
          exact .inr (.inl ⟨x, _, _, _, ws, k, rfl, hS _ _ f1, g1, ht, g2, q _ _ _ (.refl hS) (.bl _)⟩)
        · obtain ⟨ws, g1, g2⟩ := kitAny_of (K := K) (tw := .ref C) (fun d w b h1 h2 => isK_cl ok hn hm h1 h2) f2 e3
          rcases hx2 with hx2 | ⟨a', dd, fs, rfl, g3, g4, g5⟩
          · exact .inr (.inl ⟨x, _, _, _, ws, k, rfl, hS _ _ f1, g1, hx2, g2, q _ _ _ (.refl hS) (.bl _)⟩)
          · exfalso
            cases a with
            | exc n ks ds => exact hx rfl
            | ins n ks ds =>
              obtain ⟨p, C', dx, fs', e5, _, _, e6, _⟩ := r1
              cases e5
              rw [g3] at e6
              cases e6
            | _ => cases e1
    | _ => exact two (fun _ => nofun) e
  | [], _, _, e => cases e
  | [_], _, _, e => cases e
  | _ :: _ :: _ :: _, _, _, e => simp [isiG] at e
/-- isinstance(x, C), isinstance(x, (C, T)) -/
theorem de_isi {a b : Expr} {fs : En → Out (List Opnd)} (ok : IsOk c X.K sup) (hm : X.mg "isinstance" = none) (ha : DOs c X W (a :: b :: []) fs) (hg : Gl X "isinstance" := by rfl)
    (he : starEach (a :: b :: []) X.env = (false, eval a X.env) :: starEach [b] X.env := by rfl) (hpl : (backTo pos (starEach [b] X.env)).any (·.1) = false := by rfl) : DE c X W (.Call (.Name "isinstance" np) [a, b] [] pos) (cal (isiG sup) fs) :=
  (pe_callB (CallR.or callIsiP (CallR.or callIsiTP call_isX)) hg hm PyProof.Rows.boot_isinstance ha (he := he) (hpl := hpl)).imp fun _ _ _ h => cal_i (isi_link ok) h
/-- the name of a class, of a type -/
theorem de_clsN {C : Addr} (hm : X.mg x = some (.ref C)) (hc : c.mg = X.mg) (hn : x ∈ c.cs ++ c.xs) (hg : Gl X x := by rfl) (hd : (x == ("__debug__" : Str)) = false := by decide) : DE c X W (.Name x np) (con (.cls x)) := (pe_glob hg hm (v := .ref C) rfl hd).imp fun _ _ _ => con_i fun _ => .cls hn (by rw [hc]; exact hm)
theorem de_tyN {u : String} (hm : X.mg x = none) (hv : bootBuiltins x = some (.type u)) (hg : Gl X x := by rfl) (hn : x ≠ "__name__" := by decide) (hd : (x == ("__debug__" : Str)) = false := by decide) : DE c X W (.Name x np) (con (.ty u)) := (pe_bltn hg hm hv (v := .ty u) rfl hn hd).imp fun _ _ _ => con_i fun _ => .ty _
end
end Kd
/-! ## operators and built-ins over data -/
namespace Kd
open PySem PySem.Spec PyProof.Rows L2 Kq StX ClX
variable {c : Cn}
abbrev TA : Tb := [(.inr "a", .int 1)]
theorem flatTA : flatT TA = true := rfl
mutual
def pyD : D → Option PyData
  | .non => some .none
  | .bl b => some (.bool b)
  | .int i => some (.int i)
  | .str x => some (.str x)
  | .lst ds => (pyDs ds).map .list
  | .tup ds => (pyDs ds).map .tuple
  | .dct ks ds => match ks, ds with
    | [.inr k], [.int i] => if k = "a" ∧ i = 1 then some (tD TA) else none
    | _, _ => none
  | _ => none
def pyDs : List D → Option (List PyData)
  | [] => some []
  | d :: ds => match pyD d, pyDs ds with
    | some x, some xs => some (x :: xs)
    | _, _ => none
end
section
variable {F H : Hp} {K : PySem.W.Frag}
mutual
theorem Rep.dq : ∀ {v : V} {d : D} {q : PyData}, Rep c F v d → pyD d = some q → Dq TA F v q
  | _, _, _, .non, e => by simp only [pyD] at e; cases e; exact .non
  | _, _, _, .bl b, e => by simp only [pyD] at e; cases e; exact .bl b
  | _, _, _, .int i, e => by simp only [pyD] at e; cases e; exact .int i
  | _, _, _, .str x, e => by simp only [pyD] at e; cases e; exact .str x
  | _, _, _, .lst (ds := ds) h r, e => by
    simp only [pyD] at e
    obtain ⟨qs, e1, e2⟩ := Option.map_eq_some_iff.mp e
    subst e2
    exact .lst h (Reps.dq r e1)
  | _, _, _, .tup (ds := ds) h r, e => by
    simp only [pyD] at e
    obtain ⟨qs, e1, e2⟩ := Option.map_eq_some_iff.mp e
    subst e2
    exact .tup h (Reps.dq r e1)
  | _, _, _, .dct (kvs := kvs) (ks := ks) (ds := ds) h k r, e => by
    simp only [pyD] at e
    split at e
    · rename_i k' i
      split at e
      · rename_i hh
        obtain ⟨rfl, rfl⟩ := hh
        cases e
        have : kvs = TA := by
          match kvs, k, r with
          | [(a, b)], k, .cons r1 .nil =>
            cases r1
            simp at k
            rw [k]
        subst this
        exact .dct h
      · cases e
    · cases e
  | _, _, _, .ty n, e => by simp only [pyD] at e; cases e
  | _, _, _, .scr n, e => by simp only [pyD] at e; cases e
  | _, _, _, .cls a b, e => by simp only [pyD] at e; cases e
  | _, _, _, .ins a b f g h, e => by simp only [pyD] at e; cases e
  | _, _, _, .exc a b f f2 g h, e => by simp only [pyD] at e; cases e
theorem Reps.dq : ∀ {vs : List V} {ds : List D} {qs : List PyData}, Reps c F vs ds → pyDs ds = some qs → Dqs TA F vs qs
  | _, _, _, .nil, e => by simp only [pyDs] at e; cases e; exact .nil
  | _, _, _, .cons (d := d) (ds := ds) a b, e => by
    simp only [pyDs] at e
    cases e1 : pyD d with
    | none => rw [e1] at e; cases e
    | some x =>
      cases e2 : pyDs ds with
      | none => rw [e1, e2] at e; cases e
      | some xs => rw [e1, e2] at e; cases e; exact .cons (Rep.dq a e1) (Reps.dq b e2)
end
theorem RepT.dq {v : V} {d : D} {q : PyData} (hS : Same F H) (r : RepT c F H v d) (e : pyD d = some q) : Dq TA H v q := by
  cases d with
  | lst ds =>
    simp only [pyD] at e
    obtain ⟨qs, e1, e2⟩ := Option.map_eq_some_iff.mp e
    subst e2
    obtain ⟨p, xs, rfl, h1, h2⟩ := r
    exact .lst h1 ((h2.dq e1).mono hS)
  | dct ks ds =>
    simp only [pyD] at e
    obtain ⟨p, kvs, rfl, h1, h2, h3⟩ := r
    split at e
    · rename_i k' i
      split at e
      · rename_i hh
        obtain ⟨rfl, rfl⟩ := hh
        cases e
        have : kvs = TA := by
          match kvs, h2, h3 with
          | [(a, b)], k, .cons r1 .nil =>
            cases r1
            simp at k
            rw [k]
        subst this
        exact .dct h1
      · cases e
    · cases e
  | ins n ks ds => simp only [pyD] at e; cases e
  | non => exact (Rep.dq r e).mono hS
  | bl b => exact (Rep.dq r e).mono hS
  | int b => exact (Rep.dq r e).mono hS
  | str b => exact (Rep.dq r e).mono hS
  | ty b => simp only [pyD] at e; cases e
  | scr b => simp only [pyD] at e; cases e
  | cls b => simp only [pyD] at e; cases e
  | tup ds => exact (Rep.dq r e).mono hS
  | exc n ks ds => simp only [pyD] at e; cases e
/-! ### == -/
open Classical in
noncomputable def eqP (a b : PyData) : Bool := decide (nrm a = nrm b)
noncomputable def eqG (neg : Bool) (a b : D) : Option D := match pyD a, pyD b with
  | some p, some q => if p.depth ≤ 60 then some (.bl (neg != eqP p q)) else none
  | _, _ => none
open Classical in
theorem eq_link : OpL c (fun x y H Q => rEq x y H Q ∨ rEqQ TA x y H Q) (eqG false) := by
  intro F H x y a b d Q hS ra rb e q
  unfold eqG at e
  cases e1 : pyD a with
  | none => rw [e1] at e; cases e
  | some p1 =>
    cases e2 : pyD b with
    | none => rw [e1, e2] at e; cases e
    | some p2 =>
      rw [e1, e2] at e
      dsimp only at e
      by_cases hd : p1.depth ≤ 60
      · rw [if_pos hd] at e
        cases e
        refine .inr ⟨p1, p2, ra.dq hS e1, rb.dq hS e2, hd, fun k hk => q _ _ _ (.refl hS) ?_⟩
        have : (false != eqP p1 p2) = k := by
          unfold eqP
          by_cases h : nrm p1 = nrm p2
          · rw [decide_eq_true h]; exact (hk.mpr h).symm
          · rw [decide_eq_false h]
            cases k with
            | false => rfl
            | true => exact absurd (hk.mp rfl) h
        rw [this]
        exact .bl k
      · rw [if_neg hd] at e; cases e
/-! ### arithmetic, order -/
def addG : D → D → Option D
  | .int i, .int j => some (.int (i + j))
  | .str i, .str j => if i.length + j.length ≤ 1000000 then some (.str (i ++ j)) else none
  | .lst xs, .lst ys => if xs.length + ys.length ≤ 4096 then some (.lst (xs ++ ys)) else none
  | .tup xs, .tup ys => if xs.length + ys.length ≤ 4096 then some (.tup (xs ++ ys)) else none
  | _, _ => none
theorem line6 {n : Nat} (h : n ≤ 1000000) : n ≤ sizeLine := by rw [sizeLine_eq]; omega
theorem add_link : OpL c (fun x y H Q => rI0 (fun i j => .int (i + j)) x y H Q ∨ (∃ i j, x = .str i ∧ y = .str j ∧ i.length + j.length ≤ sizeLine ∧ Q (.str (i ++ j)) H) ∨ rCat x y H Q ∨ rCatA K x y H Q) addG := by
  intro F H x y a b d Q hS ra rb e q
  cases a <;> cases b <;> first
    | (cases e; done)
    | skip
  · cases ra; cases rb; cases e; exact .inl ⟨_, _, rfl, rfl, q _ _ _ (.refl hS) (.int _)⟩
  · cases ra; cases rb
    rename_i i j
    have e : (if i.length + j.length ≤ 1000000 then some (D.str (i ++ j)) else none) = some d := e
    by_cases h : i.length + j.length ≤ 1000000
    · rw [if_pos h] at e; cases e; exact .inr (.inl ⟨_, _, rfl, rfl, line6 h, q _ _ _ (.refl hS) (.str _)⟩)
    · rw [if_neg h] at e; cases e
  · rename_i xs ys
    obtain ⟨p1, us, rfl, h1, r1⟩ := ra
    obtain ⟨p2, ws, rfl, h2, r2⟩ := rb
    have e : (if xs.length + ys.length ≤ 4096 then some (D.lst (xs ++ ys)) else none) = some d := e
    by_cases h : xs.length + ys.length ≤ 4096
    · rw [if_pos h] at e
      cases e
      refine .inr (.inr (.inl ⟨_, _, us, ws, rfl, rfl, h1, h2, by rw [r1.length, r2.length]; exact Nat.le_trans h line4, fun p np => ?_⟩))
      have g := Grow.alloc (o := .lst (us ++ ws)) hS np
      exact q _ _ _ g (.lst upd_same ((r1.app r2).mono g.f))
    · rw [if_neg h] at e; cases e
  · rename_i xs ys
    cases ra with
    | tup h1 r1 =>
      cases rb with
      | tup h2 r2 =>
        rename_i a1 us a2 ws
        have e : (if xs.length + ys.length ≤ 4096 then some (D.tup (xs ++ ys)) else none) = some d := e
        by_cases h : xs.length + ys.length ≤ 4096
        · rw [if_pos h] at e
          cases e
          refine .inr (.inr (.inr ⟨_, _, us, ws, rfl, rfl, SqT.of (hS _ _ h1), SqT.of (hS _ _ h2), by rw [r1.length, r2.length]; exact Nat.le_trans h line4, fun z => ?_, fun _ z => ?_, fun _ _ p np => ?_⟩))
          · subst z
            cases r1
            exact q _ _ _ (.refl hS) (.tup h2 r2)
          · subst z
            cases r2
            rw [List.append_nil] at q
            exact q _ _ _ (.refl hS) (.tup h1 r1)
          · have g := Grow.alloc (o := .tup (us ++ ws)) hS np
            exact q _ _ _ g (.tup upd_same ((r1.app r2).mono g.f))
        · rw [if_neg h] at e; cases e
def iiG (g : Int → Int → D) : D → D → Option D
  | .int i, .int j => some (g i j)
  | _, _ => none
theorem ii_link {g : Int → Int → V} {g' : Int → Int → D} (h : ∀ F i j, Rep c F (g i j) (g' i j)) : OpL c (rI0 g) (iiG g') := by
  intro F H x y a b d Q hS ra rb e q
  cases a <;> cases b <;> first
    | (cases e; done)
    | skip
  cases ra; cases rb; cases e
  exact ⟨_, _, rfl, rfl, q _ _ _ (.refl hS) (h _ _ _)⟩
/-- a guarded operation on ints -/
def icG (ok : Int → Int → Bool) (g : Int → Int → D) : D → D → Option D
  | .int i, .int j => if ok i j = true then some (g i j) else none
  | _, _ => none
theorem ic_link {C : Int → Int → Prop} {ok : Int → Int → Bool} {g : Int → Int → V} {g' : Int → Int → D} (hC : ∀ i j, ok i j = true → C i j) (h : ∀ F i j, Rep c F (g i j) (g' i j)) : OpL c (rI C g) (icG ok g') := by
  intro F H x y a b d Q hS ra rb e q
  cases a <;> cases b <;> first
    | (cases e; done)
    | skip
  rename_i i j
  have e : (if ok i j = true then some (g' i j) else none) = some d := e
  by_cases hk : ok i j = true
  · rw [if_pos hk] at e
    cases ra; cases rb; cases e
    exact ⟨_, _, rfl, rfl, hC _ _ hk, q _ _ _ (.refl hS) (h _ _ _)⟩
  · rw [if_neg hk] at e; cases e
/-- <, of ints and texts -/
def ordG (f : Int → Int → Bool) (g : Str → Str → Bool) : D → D → Option D
  | .int i, .int j => some (.bl (f i j))
  | .str i, .str j => some (.bl (g i j))
  | _, _ => none
theorem ord_link {f : Int → Int → Bool} {g : Str → Str → Bool} : OpL c (fun x y H Q => rI0 (fun i j => .bl (f i j)) x y H Q ∨ (∃ i j, x = .str i ∧ y = .str j ∧ Q (.bl (g i j)) H)) (ordG f g) := by
  intro F H x y a b d Q hS ra rb e q
  cases a <;> cases b <;> first
    | (cases e; done)
    | skip
  · cases ra; cases rb; cases e; exact .inl ⟨_, _, rfl, rfl, q _ _ _ (.refl hS) (.bl _)⟩
  · cases ra; cases rb; cases e; exact .inr ⟨_, _, rfl, rfl, q _ _ _ (.refl hS) (.bl _)⟩
/-- is None -/
def isN (neg : Bool) : D → D → Option D
  | a, .non => match a with
    | .non => some (.bl (!neg))
    | _ => some (.bl neg)
  | _, _ => none
end
end Kd
namespace Kd
open PySem PySem.Spec PyProof.Rows L2 Kq StX ClX
variable {c : Cn}
section
variable {F H : Hp} {K : PySem.W.Frag}
/-! ### in -/
def fV : D → Option V
  | .non => some .non
  | .bl b => some (.bl b)
  | .int i => some (.int i)
  | .str x => some (.str x)
  | _ => none
def fVs : List D → Option (List V)
  | [] => some []
  | d :: ds => (fV d).bind fun v => (fVs ds).bind fun vs => some (v :: vs)
def sqD : D → Option (List D)
  | .lst ds => some ds
  | .tup ds => some ds
  | _ => none
theorem sq_at {x : V} {d : D} {ds : List D} (hS : Same F H) (r : RepT c F H x d) (e : sqD d = some ds) : ∃ p xs, x = .ref p ∧ (SqL K H p xs ∨ SqT K H p xs) ∧ Reps c F xs ds := by
  cases d with
  | lst es => cases e; obtain ⟨p, xs, rfl, h, r⟩ := r; exact ⟨p, xs, rfl, .inl (SqL.of h), r⟩
  | tup es =>
    cases e
    cases r with
    | tup h r => exact ⟨_, _, rfl, .inr (SqT.of (hS _ _ h)), r⟩
  | _ => cases e
/-- a sign in a text -/
def signD : D → Option Nat
  | .str z => match z.cps.toList with
    | [k] => some k
    | _ => none
  | _ => none
def inS (neg : Bool) (a : D) (ds : List D) : Option D := (fV a).bind fun v => (fVs ds).bind fun vs => some (.bl (neg != inV v vs))
def inG (neg : Bool) (a b : D) : Option D := match b with
  | .str z => (signD a).map fun k => .bl (neg != decide (k ∈ z.cps.toList))
  | .lst ds => inS neg a ds
  | .tup ds => inS neg a ds
  | _ => none
/-! ### built-ins of one argument -/
def lenG : List D → Option D
  | [.str z] => if z.length ≤ 1000000 then some (.int z.length) else none
  | [d] => (sqD d).map fun ds => .int (ds.length : Nat)
  | _ => none
theorem len_link : CaL c (fun xs H Q => (∃ p ys, xs = [.ref p] ∧ (SqL K H p ys ∨ SqT K H p ys) ∧ Q (.int ys.length) H) ∨ (∃ z, xs = [.str z] ∧ z.length ≤ sizeLine ∧ Q (.int z.length) H)) lenG := by
  intro F H xs ds d Q hS rp e q
  match ds, xs, rp, e with
  | [a], [x], .cons r1 .nil, e =>
    cases a with
    | str z =>
      cases r1
      have e : (if z.length ≤ 1000000 then some (D.int z.length) else none) = some d := e
      by_cases h : z.length ≤ 1000000
      · rw [if_pos h] at e; cases e; exact .inr ⟨z, rfl, line6 h, q _ _ _ (.refl hS) (.int _)⟩
      · rw [if_neg h] at e; cases e
    | lst es =>
      cases e
      obtain ⟨p, ys, rfl, h1, h2⟩ := sq_at (K := K) (ds := es) hS r1 rfl
      exact .inl ⟨p, ys, rfl, h1, by rw [h2.length]; exact q _ _ _ (.refl hS) (.int _)⟩
    | tup es =>
      cases e
      obtain ⟨p, ys, rfl, h1, h2⟩ := sq_at (K := K) (ds := es) hS r1 rfl
      exact .inl ⟨p, ys, rfl, h1, by rw [h2.length]; exact q _ _ _ (.refl hS) (.int _)⟩
    | _ => cases e
  | [], _, _, e => cases e
  | _ :: _ :: _, _, _, e => simp [lenG] at e
def listG : List D → Option D
  | [d] => (sqD d).map .lst
  | _ => none
def tupleG : List D → Option D
  | [d] => (sqD d).map .tup
  | _ => none
theorem list_link : CaL c (fun xs H Q => ∃ p ys, xs = [.ref p] ∧ (SqL K H p ys ∨ SqT K H p ys) ∧ ∀ l, H l = none → Q (.ref l) (upd H l (.lst ys))) listG := by
  intro F H xs ds d Q hS rp e q
  match ds, xs, rp, e with
  | [a], [x], .cons r1 .nil, e =>
    obtain ⟨es, e1, e2⟩ := Option.map_eq_some_iff.mp e
    subst e2
    obtain ⟨p, ys, rfl, h1, h2⟩ := sq_at (K := K) hS r1 e1
    refine ⟨p, ys, rfl, h1, fun l hl => ?_⟩
    have g := Grow.alloc (o := .lst ys) hS hl
    exact q _ _ _ g (.lst upd_same (h2.mono g.f))
  | [], _, _, e => cases e
  | _ :: _ :: _, _, _, e => cases e
def bools : List D → Option (List Bool)
  | [] => some []
  | .bl b :: ds => (bools ds).bind fun bs => some (b :: bs)
  | _ => none
def allG : List D → Option D
  | [.lst ds] => (bools ds).map fun bs => .bl (bs.all id)
  | _ => none
def int1G : List D → Option D
  | [.int i] => some (.int i)
  | [.bl b] => some (.int (if b then 1 else 0))
  | _ => none
theorem int1_link : CaL c (fun xs H Q => (∃ i, xs = [.int i] ∧ Q (.int i) H) ∨ ∃ k, xs = [.bl k] ∧ Q (.int (if k then 1 else 0)) H) int1G := by
  intro F H xs ds d Q hS rp e q
  match ds, xs, rp, e with
  | [a], [x], .cons r1 .nil, e =>
    cases a with
    | int i => cases e; cases r1; exact .inl ⟨i, rfl, q _ _ _ (.refl hS) (.int _)⟩
    | bl b => cases e; cases r1; exact .inr ⟨b, rfl, q _ _ _ (.refl hS) (.int _)⟩
    | _ => cases e
  | [], _, _, e => cases e
  | _ :: _ :: _, _, _, e => simp [int1G] at e
def absG : List D → Option D
  | [.int i] => some (.int (if i < 0 then -i else i))
  | _ => none
theorem abs_link : CaL c (fun xs H Q => ∃ i, xs = [.int i] ∧ Q (.int (if i < 0 then -i else i)) H) absG := by
  intro F H xs ds d Q hS rp e q
  match ds, xs, rp, e with
  | [a], [x], .cons r1 .nil, e =>
    cases a with
    | int i => cases e; cases r1; exact ⟨i, rfl, q _ _ _ (.refl hS) (.int _)⟩
    | _ => cases e
  | [], _, _, e => cases e
  | _ :: _ :: _, _, _, e => simp [absG] at e
def i2G (g : Int → Int → Int) : List D → Option D
  | [.int i, .int j] => some (.int (g i j))
  | _ => none
def strG : List D → Option D
  | [.int i] => if i.natAbs < 1000000000000 then some (.str (toString i)) else none
  | [.str x] => some (.str x)
  | _ => none
/-! ### repr -/
def isRef : D → Bool
  | .lst _ => true
  | .tup _ => true
  | .dct _ _ => true
  | _ => false
/-! ### xs[i] -/
def ixG : D → D → Option D
  | .str z, .int i => if z.length ≤ 1000000 then (atI z.cps.toList i).map fun k => .str ⟨#[k]⟩ else none
  | d, .int i => (sqD d).bind fun ds => atI ds i
  | _, _ => none
theorem at_rep {xs : List V} {ds : List D} {i : Int} {d : D} (r : Reps c F xs ds) (e : atI ds i = some d) : ∃ v, atI xs i = some v ∧ Rep c F v d := by
  unfold atI at e ⊢
  rw [r.length]
  obtain ⟨j, e1, e2⟩ := Option.bind_eq_some_iff.mp e
  obtain ⟨v, h1, h2⟩ := r.get e2
  exact ⟨v, by rw [e1]; exact h1, h2⟩
theorem ix_link : OpL c (rIx K) ixG := by
  intro F H x y a b d Q hS ra rb e q
  cases b with
  | int i =>
    cases rb
    cases a with
    | str z =>
      cases ra
      have e : (if z.length ≤ 1000000 then (atI z.cps.toList i).map (fun k => D.str ⟨#[k]⟩) else none) = some d := e
      by_cases h : z.length ≤ 1000000
      · rw [if_pos h] at e
        obtain ⟨k, e1, e2⟩ := Option.map_eq_some_iff.mp e
        subst e2
        exact .inr (.inr ⟨z, i, k, rfl, rfl, line6 h, e1, q _ _ _ (.refl hS) (.str _)⟩)
      · rw [if_neg h] at e; cases e
    | lst es =>
      obtain ⟨p, xs, rfl, h1, h2⟩ := ra
      obtain ⟨v, g1, g2⟩ := at_rep h2 (show atI es i = some d from e)
      exact .inl ⟨p, xs, i, v, rfl, rfl, SqL.of h1, g1, q _ _ _ (.refl hS) g2⟩
    | tup es =>
      cases ra with
      | tup h1 h2 =>
        obtain ⟨v, g1, g2⟩ := at_rep h2 (show atI es i = some d from e)
        exact .inr (.inl ⟨_, _, i, v, rfl, rfl, SqT.of (hS _ _ h1), g1, q _ _ _ (.refl hS) g2⟩)
    | _ => cases e
  | _ => cases a <;> cases e
end
section
variable {X : Cx} {W : WX} {a b : Expr} {fa fb : En → Out Opnd} {pos : Pos}
theorem de_ix (ha : DO c X W a fa) (hb : DO c X W b fb) (hs : PlainIx b := by exact fun _ _ => rfl) : DE c X W (.Subscript a b pos) (bin ixG fa fb) := (pe_ix ixP ha hb hs).imp fun _ _ _ => bin_i ix_link
end
end Kd
/-! ## slices, methods of texts, sets of texts -/
namespace Kd
open PySem PySem.Spec PyProof.Rows L2 Kq StX ClX
variable {c : Cn}
section
variable {F H : Hp} {K : PySem.W.Frag}
def cutD (ds : List D) (lo hi : Option Int) : List D := (ds.drop (HT.sIx ds.length 0 lo)).take (HT.sIx ds.length ds.length hi - HT.sIx ds.length 0 lo)
def slG (d : D) (lo hi : Option Int) : Option D := match d with
  | .lst ds => some (.lst (cutD ds lo hi))
  | .tup ds => some (.tup (cutD ds lo hi))
  | .scr ns => some (.lst (cutD (ns.map .int) lo hi))
  | .str z => if z.length ≤ 1000000 then some (.str (cutS z lo hi)) else none
  | _ => none
theorem cut_rep {xs : List V} {ds : List D} (r : Reps c F xs ds) (lo hi : Option Int) : Reps c F (cutV xs lo hi) (cutD ds lo hi) := by
  unfold cutV cutD
  rw [r.length]
  exact (r.drop _).take _
theorem sl_link (hK : c.K = K) {x : V} {d d' : D} {lo hi : Option Int} {Q : VK} (hS : Same F H) (r : RepT c F H x d) (e : slG d lo hi = some d') (q : ∀ v F' H', Grow F H F' H' → Rep c F' v d' → Q v H') :
    rSlL K x lo hi H Q ∨ rSlA K x lo hi H Q ∨ rSlS x lo hi H Q := by
  cases d with
  | lst ds =>
    cases e
    obtain ⟨p, xs, rfl, h1, h2⟩ := r
    refine .inl ⟨p, xs, rfl, SqL.of h1, fun l hl => ?_⟩
    have g := Grow.alloc (o := .lst (cutV xs lo hi)) hS hl
    exact q _ _ _ g (.lst upd_same ((cut_rep h2 lo hi).mono g.f))
  | tup ds =>
    cases e
    cases r with
    | tup h1 h2 =>
      rename_i a xs
      refine .inr (.inl ⟨a, xs, rfl, SqT.of (hS _ _ h1), fun hh => ?_, fun _ p np => ?_⟩)
      · have : cutD ds lo hi = ds := by
          unfold cutD
          rw [← h2.length, hh.1, hh.2, List.drop_zero, Nat.sub_zero, h2.length, List.take_length]
        rw [this] at q
        exact q _ _ _ (.refl hS) (.tup h1 h2)
      · have g := Grow.alloc (o := .tup (cutV xs lo hi)) hS np
        exact q _ _ _ g (.tup upd_same ((cut_rep h2 lo hi).mono g.f))
  | scr ns =>
    cases e
    cases r with
    | scr h =>
      rw [hK] at h
      refine .inl ⟨_, _, rfl, hS.seq h, fun l hl => ?_⟩
      have g := Grow.alloc (o := .lst (cutV (ns.map V.int) lo hi)) hS hl
      exact q _ _ _ g (.lst upd_same ((cut_rep (Reps.ints ns) lo hi).mono g.f))
  | str z =>
    have e : (if z.length ≤ 1000000 then some (D.str (cutS z lo hi)) else none) = some d' := e
    by_cases h : z.length ≤ 1000000
    · rw [if_pos h] at e; cases e; cases r; exact .inr (.inr ⟨z, rfl, line6 h, q _ _ _ (.refl hS) (.str _)⟩)
    · rw [if_neg h] at e; cases e
  | _ => cases e
end
section
variable {X : Cx} {W : WX} {σ : L2.St} {H : Hp} {e : Expr} {pos p2 : Pos} {fo : En → Out Opnd} {f : En → Out D} {lo hi : Option Expr}
abbrev DP (c : Cn) (X : Cx) (W : WX) (e : Option Expr) (f : En → Out (Option Int)) : Prop := PO X e (tX c W f fun _ _ _ _ (v : Option Int) b => v = b)
theorem _root_.L2.PO.imp {X : Cx} {e : Option Expr} {t t' : TO} (h : PO X e t) (i : ∀ σ H Q, t' σ H Q → t σ H Q) : PO X e t' := ⟨fun pins s σ H Q I q => h.run pins s σ H Q I (i _ _ _ q)⟩
def noP : En → Out (Option Int) := fun ρ => .ok none ρ
def someP (f : En → Out D) : En → Out (Option Int) := fun ρ => (f ρ).bind fun d ρ1 => lift ((asI d).map some) ρ1
theorem dp_none : DP c X W none noP := po_none.imp fun σ H Q => by
  rintro ⟨π, F, R, ρ, w, h⟩
  exact h F H (.refl _) w _ rfl
theorem dp_some (h : DE c X W e f) : DP c X W (some e) (someP f) := (po_some h).imp fun σ H Q => by
  rintro ⟨π, F, R, ρ, w, h⟩
  unfold tPart
  refine tX.mk w (Post.bind h) fun x d ρ1 F1 H1 _ s1 w1 ra k1 => ?_
  obtain ⟨o, e1, k2⟩ := Post.lift_some k1 w1
  obtain ⟨i, e2, e3⟩ := Option.map_eq_some_iff.mp e1
  subst e3
  have := asI_of e2
  subst this
  cases ra
  exact ⟨i, rfl, k2 _ rfl⟩
def slS (fo : En → Out Opnd) (fl fh : En → Out (Option Int)) : En → Out D := fun ρ => (fo ρ).bind fun o ρ1 => (fl ρ1).bind fun lo ρ2 => (fh ρ2).bind fun hi ρ3 => lift ((deref ρ3 o).bind fun d => slG d lo hi) ρ3
theorem de_slice {fl fh : En → Out (Option Int)} (hK : X.K = c.K) (he : DO c X W e fo) (hl : DP c X W lo fl) (hh : DP c X W hi fh) : DE c X W (.Subscript e (.Slice lo hi none p2) pos) (slS fo fl fh) := (pe_slice (slP (K := X.K)) he hl hh).imp fun σ H Q => by
  rintro ⟨π, F, R, ρ, w, h⟩
  unfold tSl
  refine tX.mk w (Post.bind h) fun x o ρ1 F1 H1 _ s1 w1 ra k1 => ?_
  refine tX.mk w1 (Post.bind k1) fun l l' ρ2 F2 H2 _ s2 w2 rl k2 => ?_
  subst rl
  refine tX.mk w2 (Post.bind k2) fun u u' ρ3 F3 H3 _ s3 w3 ru k3 => ?_
  subst ru
  obtain ⟨d', e1, k4⟩ := Post.lift_some k3 w3
  obtain ⟨d, e2, e3⟩ := Option.bind_eq_some_iff.mp e1
  have k5 : ∀ v F' H', Grow F3 H3 F' H' → Rep c F' v d' → Q v H' := fun v F' H' g r => by
    rw [e1] at k3
    exact k3 F' H' g.f (w3.grow g) v r
  exact sl_link hK.symm w3.fh (((ra.mono s2).mono s3).top w3 e2) e3 k5
/-- xs[::-1] of a list -/
def revG : D → Option D
  | .lst ds => some (.lst ds.reverse)
  | _ => none
/-! ### methods of built-in types -/
def tyOk (T : String) : D → Bool
  | .str _ => T == "str"
  | .int _ => T == "int"
  | .lst _ => T == "list"
  | _ => false
def bm (T : String) (g : D → List D → Option D) (fo : En → Out Opnd) (fs : En → Out (List Opnd)) : En → Out D := fun ρ => (fo ρ).bind fun o ρ1 => if (deref ρ1 o).any (tyOk T) = true then (fs ρ1).bind fun os ρ2 =>
  lift ((deref ρ2 o).bind fun a => (derefs ρ2 os).bind fun ds => g a ds) ρ2 else .no
variable {o : Expr} {es : List Expr} {fs : En → Out (List Opnd)} {name : Str} {apos cpos : Pos} {T id : String} {r : V → List V → Hp → VK → Prop} {g : D → List D → Option D}
/-- sep.join(texts), text.split(sep) -/
def strsD : List D → Option (List Str)
  | [] => some []
  | .str x :: ds => (strsD ds).bind fun xs => some (x :: xs)
  | _ => none
/-! ### sorted(set(words)), len(set(words)) -/
/-- set(words) as an argument: what it is, where it lies -/
def txsS (f : En → Out D) : En → Out (List Str) := fun ρ => (f ρ).bind fun d ρ1 => lift ((sqD d).bind fun ds => (strsD ds).bind fun ys => if ys.length ≤ 4000 then some ys else none) ρ1
def sortedSetS (f : En → Out D) (srt : List Str → List Str) : En → Out D := fun ρ => (txsS f ρ).bind fun ys ρ1 => .ok (.lst ((srt ys).map .str)) ρ1
def lenSetS (f : En → Out D) (cnt : List Str → Nat) : En → Out D := fun ρ => (txsS f ρ).bind fun ys ρ1 => .ok (.int (cnt ys : Nat)) ρ1
end
end Kd
/-! ## a caught error kept; a lambda handed to a def -/
namespace Kd
open PySem PySem.Spec PyProof.Rows L2 Kq StX ClX LamX
variable {c : Cn}
section
variable {X : Cx} {W : WX} {σ : L2.St} {H : Hp} {e : Expr} {pos pos' np : Pos} {i j : Nat} {x n : Str} {body : List Stmt} {b : En → SOut}
/-- try: body / except C as n: y = n   (n in slot i, y in slot j) -/
def tryK (sub : Str → Bool) (i j : Nat) (b : En → SOut) : En → SOut := fun ρ => match b ρ with
  | .exc m ks ds ρ1 => if sub m = true then (if canSet ρ1 i = true ∧ canSet ρ1 j = true ∧ i ≠ j then .nx ((ρ1.set i .un).set j (.val (.exc m ks ds))) else .no) else .exc m ks ds ρ1
  | o => o
/-- which errors the class at cv catches -/
def SubOk (c : Cn) (K : PySem.W.Frag) (cv : Value) (sub : Str → Bool) : Prop := ∀ m C, m ∈ c.xs → c.mg m = some (.ref C) → PySem.W.exmOne K (.ref C) cv = some (sub m)
end
end Kd
/-! ## x(lambda: body): HandS.Lambda's rules, the wish told of the slots at the call -/
namespace Kd
open PySem PySem.Spec PyProof.Rows L2 Kq StX ClX LamX
/-! ### another relation for the lambdas -/
/-- what a call gives, told of the heaps alone -/
def Bare (c : Cn) (F R H : Hp) : Prop := Wf c [] F R H [] []
theorem bare_mk {c : Cn} {F R H : Hp} (a : Same F H) (b : Same R H) (d : ∀ p, R p ≠ none → F p = none) (t : TbOk c F R H) : Bare c F R H := ⟨rfl, a, b, d, fun i x e => by simp at e, fun i j p _ h => by simp [owned] at h, fun i d e => by simp at e, fun i p h => by simp at h, t⟩
theorem Wf.bare {c : Cn} {π : List (Nat × Addr)} {F R H : Hp} {σ : L2.St} {ρ : En} (w : Wf c π F R H σ ρ) : Bare c F R H := bare_mk w.fh w.rh w.dis w.tb
end Kd
/-! ## a def that hears what a lambda gives -/
namespace Kd
open PySem PySem.Spec PyProof.Rows L2 Kq StX ClX LamX
variable {c : Cn}
def thkS (i : Nat) : En → Out D := fun ρ => match ρ[i]? with
  | some (.thk (.ok d)) => .ok d ρ
  | some (.thk (.exc n ks ds)) => .exc n ks ds ρ
  | _ => .no
def hideV : SV → SV
  | .val d => .val d
  | .thk r => .thk r
  | _ => .un
def outR (o : Out D) : Option R0 := match o with
  | .ok d _ => some (.ok d)
  | .exc n ks ds _ => some (.exc n ks ds)
  | .no => none
def hearS (Hf : R0 → Option D) (fe : En → Out D) : En → Out D := fun ρ => match outR (fe (ρ.map hideV)) with
  | some r => lift (Hf r) ρ
  | none => .no
end Kd
/-! ## more operators; stores -/
namespace Kd
open PySem PySem.Spec PyProof.Rows L2 Kq StX ClX LamX
variable {c : Cn}
def big64 : Int := 18446744073709551616
theorem b64 : big64 = 2 ^ 64 := by decide
def mulOk (i j : Int) : Bool := decide (-big64 < i ∧ i < big64) || decide (-big64 < j ∧ j < big64)
theorem mulOk_of (i j : Int) (h : mulOk i j = true) : CMul i j := by
  unfold mulOk at h
  rw [Bool.or_eq_true, decide_eq_true_eq, decide_eq_true_eq, b64] at h
  exact h
def modOk (_ j : Int) : Bool := decide (0 < j)
def divOk (_ j : Int) : Bool := decide (0 < j ∧ j < 1073741824)
def powOk (i j : Int) : Bool := decide (0 ≤ j ∧ j ≤ 1000000 ∧ i.natAbs < 18446744073709551616)
section
variable {F H : Hp} {K : PySem.W.Frag}
theorem mul_link : OpL c (rI CMul fun i j => .int (i * j)) (icG mulOk fun i j => .int (i * j)) := ic_link mulOk_of fun _ _ _ => .int _
theorem mod_link : OpL c (rI (fun _ j => 0 < j) fun i j => .int (i % j)) (icG modOk fun i j => .int (i % j)) := ic_link (fun i j h => of_decide_eq_true h) fun _ _ _ => .int _
theorem div_link : OpL c (rI CDiv fun i j => .int (i / j)) (icG divOk fun i j => .int (i / j)) := ic_link (fun i j h => of_decide_eq_true (p := 0 < j ∧ j < 1073741824) h) fun _ _ _ => .int _
theorem pow_link : OpL c (rI CPow fun i j => .int (i ^ j.toNat)) (icG powOk fun i j => .int (i ^ j.toNat)) := ic_link (fun i j h => by
  have := of_decide_eq_true (p := 0 ≤ j ∧ j ≤ 1000000 ∧ i.natAbs < 18446744073709551616) h
  exact ⟨this.1, this.2.1, Nat.lt_of_lt_of_le this.2.2 (by decide)⟩) fun _ _ _ => .int _
theorem sub_link : OpL c (rI0 fun i j => .int (i - j)) (iiG fun i j => .int (i - j)) := ii_link fun _ _ _ => .int _
/-! ### != -/
mutual
def pyN : D → Option PyData
  | .non => some .none
  | .bl b => some (.bool b)
  | .int i => some (.int i)
  | .str x => some (.str x)
  | .lst ds => (pyNs ds).map .list
  | .tup ds => (pyNs ds).map .tuple
  | _ => none
def pyNs : List D → Option (List PyData)
  | [] => some []
  | d :: ds => match pyN d, pyNs ds with
    | some x, some xs => some (x :: xs)
    | _, _ => none
end
mutual
theorem Rep.dp : ∀ {v : V} {d : D} {q : PyData}, Rep c F v d → pyN d = some q → Dp K F v q
  | _, _, _, .non, e => by simp only [pyN] at e; cases e; exact .non
  | _, _, _, .bl b, e => by simp only [pyN] at e; cases e; exact .bl b
  | _, _, _, .int i, e => by simp only [pyN] at e; cases e; exact .int i
  | _, _, _, .str x, e => by simp only [pyN] at e; cases e; exact .str x
  | _, _, _, .lst (ds := ds) h r, e => by
    simp only [pyN] at e
    obtain ⟨qs, e1, e2⟩ := Option.map_eq_some_iff.mp e
    subst e2
    exact .lst (SqL.of h) (Reps.dp r e1)
  | _, _, _, .tup (ds := ds) h r, e => by
    simp only [pyN] at e
    obtain ⟨qs, e1, e2⟩ := Option.map_eq_some_iff.mp e
    subst e2
    exact .tup (SqT.of h) (Reps.dp r e1)
  | _, _, _, .dct h k r, e => by simp only [pyN] at e; cases e
  | _, _, _, .ty n, e => by simp only [pyN] at e; cases e
  | _, _, _, .scr n, e => by simp only [pyN] at e; cases e
  | _, _, _, .cls a b, e => by simp only [pyN] at e; cases e
  | _, _, _, .ins a b f g h, e => by simp only [pyN] at e; cases e
  | _, _, _, .exc a b f f2 g h, e => by simp only [pyN] at e; cases e
theorem Reps.dp : ∀ {vs : List V} {ds : List D} {qs : List PyData}, Reps c F vs ds → pyNs ds = some qs → DpAll K F vs qs
  | _, _, _, .nil, e => by simp only [pyNs] at e; cases e; exact .nil
  | _, _, _, .cons (d := d) (ds := ds) a b, e => by
    simp only [pyNs] at e
    cases e1 : pyN d with
    | none => rw [e1] at e; cases e
    | some x =>
      cases e2 : pyNs ds with
      | none => rw [e1, e2] at e; cases e
      | some xs => rw [e1, e2] at e; cases e; exact .cons (Rep.dp a e1) (Reps.dp b e2)
end
mutual
theorem dp_mono {H' : Hp} (s : Same H H') : ∀ {v : V} {q : PyData}, Dp K H v q → Dp K H' v q
  | _, _, .non => .non
  | _, _, .bl b => .bl b
  | _, _, .int b => .int b
  | _, _, .str b => .str b
  | _, _, .lst h r => .lst (s.seq h) (dpAll_mono s r)
  | _, _, .tup h r => .tup (by rcases h with (h | ⟨o, h⟩) | h; exact .inl (.inl (s _ _ h)); exact .inl (.inr ⟨o, s _ _ h⟩); exact .inr h) (dpAll_mono s r)
theorem dpAll_mono {H' : Hp} (s : Same H H') : ∀ {v : List V} {q : List PyData}, DpAll K H v q → DpAll K H' v q
  | _, _, .nil => .nil
  | _, _, .cons a b => .cons (dp_mono s a) (dpAll_mono s b)
end
theorem RepT.dp {v : V} {d : D} {q : PyData} (hS : Same F H) (r : RepT c F H v d) (e : pyN d = some q) : Dp K H v q := by
  cases d with
  | lst ds =>
    simp only [pyN] at e
    obtain ⟨qs, e1, e2⟩ := Option.map_eq_some_iff.mp e
    subst e2
    obtain ⟨p, xs, rfl, h1, h2⟩ := r
    exact .lst (SqL.of h1) (dpAll_mono hS (h2.dp e1))
  | dct ks ds => simp only [pyN] at e; cases e
  | ins n ks ds => simp only [pyN] at e; cases e
  | non => exact dp_mono hS (Rep.dp r e)
  | bl b => exact dp_mono hS (Rep.dp r e)
  | int b => exact dp_mono hS (Rep.dp r e)
  | str b => exact dp_mono hS (Rep.dp r e)
  | ty b => simp only [pyN] at e; cases e
  | scr b => simp only [pyN] at e; cases e
  | cls b => simp only [pyN] at e; cases e
  | tup ds => exact dp_mono hS (Rep.dp r e)
  | exc n ks ds => simp only [pyN] at e; cases e
def neG (a b : D) : Option D := match pyN a, pyN b with
  | some p, some q => if SeqAt.shaped p = true ∧ SeqAt.shaped q = true then some (.bl (!PyData.eqv p q)) else none
  | _, _ => none
theorem ne_link : OpL c (fun x y H Q => rNe x y H Q ∨ rNeD K x y H Q) neG := by
  intro F H x y a b d Q hS ra rb e q
  unfold neG at e
  cases e1 : pyN a with
  | none => rw [e1] at e; cases e
  | some p1 =>
    cases e2 : pyN b with
    | none => rw [e1, e2] at e; cases e
    | some p2 =>
      rw [e1, e2] at e
      dsimp only at e
      by_cases h : SeqAt.shaped p1 = true ∧ SeqAt.shaped p2 = true
      · rw [if_pos h] at e
        cases e
        exact .inr ⟨p1, p2, ra.dp hS e1, rb.dp hS e2, h.1, h.2, q _ _ _ (.refl hS) (.bl _)⟩
      · rw [if_neg h] at e; cases e
end
/-! ### o[i] = e, o.f = e -/
section
variable {W : WX} {π : List (Nat × Addr)} {F F' R H H' : Hp} {σ : L2.St} {ρ : En} {i : Nat}
theorem mod_k {g : D → Option D} {D' : Ends} (w : Wf c π F R H σ ρ) (h : PostS c W π F R (modS i g ρ) D') : ∃ x d d' p, ρ[i]? = some x ∧ owned (some x) = true ∧ σ[i]? = some (some (.ref p)) ∧ Own c F R H p d ∧ g d = some d' ∧
    ∀ o, Own c F R (upd H p o) p d' → D'.nx σ (upd H p o) := by
  unfold modS at h
  cases q : ownAt ρ i with
  | none => rw [q] at h; exact h.elim
  | some z =>
    obtain ⟨x, d⟩ := z
    rw [q] at h
    obtain ⟨e3, e4, p, e5, own⟩ := ownAt_of w q
    cases eg : g d with
    | none => simp only [eg] at h; exact h.elim
    | some d' =>
      simp only [eg] at h
      exact ⟨x, d, d', p, e3, e4, e5, own, eg, fun o new => h σ F _ (.refl _) (w.mut e3 e4 e5 new)⟩
def setK (k d : D) : D → Option D
  | .lst ds => (asI k).bind fun j => (ixN ds.length j).map fun n => .lst (ds.set n d)
  | _ => none
def putS (i : Nat) (fk fv : En → Out D) : En → SOut := fun ρ => toS (fv ρ) fun d ρ1 => if owned ρ1[i]? = true then toS (fk ρ1) fun k ρ2 => modS i (setK k d) ρ2 else .no
variable {X : Cx} {e k : Expr} {fv fk : En → Out D} {pos spos np : Pos} {n : Str}
theorem ds_put (i : Nat) (ho : PE X (.Name n np) (tVar i)) (hk : DE c X W k fk) (he : DE c X W e fv) (ha : ∀ v, assign (.Subscript (.Name n np) k spos) X.env v = (do
      let ov ← holding [v] (eval (.Name n np) X.env)
      let iv ← holding [v, ov] (eval k X.env)
      standAt spos
      holding [v, ov, iv] (setItem ov iv v)
      release [v, ov, iv] []) := by intro _; rfl) (hs : swapsWithSole [.Subscript (.Name n np) k spos] e pos.line X.env = pure false := by rfl) (hw : swappedStores [.Subscript (.Name n np) k spos] e X.env = pure none := by rfl)
    (h1 : (assignEach [.Subscript (.Name n np) k spos] X.env).map (·.2) = [assign (.Subscript (.Name n np) k spos) X.env] := by rfl) : DS c X W (.Assign [.Subscript (.Name n np) k spos] e pos) (putS i fk fv) :=
  (ps_asg he (pg_sub ho hk set_list ha) hs hw h1).imp fun D' σ H => by
    rintro ⟨π, F, R, ρ, w, h⟩
    unfold tAsg
    refine tX.mk w (PostS.toS h) fun v d ρ1 F1 H1 _ s1 w1 ra k1 => ?_
    by_cases q : owned ρ1[i]? = true
    case neg => rw [if_neg q] at k1; exact k1.elim
    rw [if_pos q] at k1
    obtain ⟨p, d0, e1, _⟩ := own_of q w1
    refine ⟨.ref p, e1, ?_⟩
    refine tX.mk w1 (PostS.toS k1) fun kv kd ρ2 F2 H2 _ s2 w2 rk k2 => ?_
    obtain ⟨x, d1, d2, p', e3, e4, e5, own, eg, fin⟩ := mod_k w2 k2
    rw [e1] at e5
    cases e5
    cases d1 with
    | lst ds =>
      obtain ⟨j, g1, g2⟩ := Option.bind_eq_some_iff.mp (show (asI kd).bind _ = some d2 from eg)
      obtain ⟨m, g3, g4⟩ := Option.map_eq_some_iff.mp g2
      subst g4
      have := asI_of g1
      subst this
      cases rk
      obtain ⟨n1, n2, ys, e6, rs⟩ := own
      exact ⟨p, ys, j, m, rfl, rfl, e6, by rw [rs.length]; exact g3, fin _ ⟨n1, n2, _, upd_same, rs.set (Rep.mono s2 ra) m⟩⟩
    | _ => cases eg
def putKD (f : Str) (d : D) : List Str → List D → List Str × List D
  | k :: ks, e :: es => if k = f then (k :: ks, d :: es) else (k :: (putKD f d ks es).1, e :: (putKD f d ks es).2)
  | _, _ => ([f], [d])
def fldD (cl : List Str) (f : Str) (d : D) : D → Option D
  | .ins n ks ds => if n ∈ cl ∧ ks.length < 900 then some (.ins n (putKD f d ks ds).1 (putKD f d ks ds).2) else none
  | _ => none
def fldS (i : Nat) (cl : List Str) (f : Str) (fv : En → Out D) : En → SOut := fun ρ => toS (fv ρ) fun d ρ1 => modS i (fldD cl f d) ρ1
/-! ### the fields of a caught error -/
def getX (f : Str) : D → Option D
  | .exc _ ks ds => (ks.zip ds).lookup f
  | _ => none
def XfdOk (c : Cn) (K : PySem.W.Frag) (f : Str) : Prop := ∀ n C, n ∈ c.xs → c.mg n = some (.ref C) → XfC K C ∧ PySem.W.findIn K (.ref C) f = some none
theorem de_xfd {f : Str} {fo : En → Out Opnd} (hf : XfdOk c X.K f) (he : DO c X W e fo) (hb : attributeBase e f X.env (eval e X.env) = eval e X.env := by rfl) : DE c X W (.Attribute e f pos) (un (getX f) fo) := (pe_xk (K := X.K) he rfl hb).imp fun σ H Q => by
  rintro ⟨π, F, R, ρ, w, h⟩
  unfold tXk
  refine tX.mk w (Post.bind h) fun x o ρ1 F1 H1 _ s1 w1 ra k1 => ?_
  obtain ⟨d', e1, k2⟩ := Post.lift_some k1 w1
  obtain ⟨d, e2, e3⟩ := Option.bind_eq_some_iff.mp e1
  have rt := ra.top w1 e2
  cases d with
  | exc n ks ds =>
    cases rt with
    | exc hn hm h1 h2 h3 h4 =>
      obtain ⟨v, g1, g2⟩ := lookup_rep h3 h4 e3
      obtain ⟨g3, g4⟩ := hf n _ hn hm
      rename_i dd fs
      cases dd with
      | none => rw [show fs = [] from h2] at g1; cases g1
      | some dd => exact ⟨_, _, _, _, v, rfl, w1.fh _ _ h1, w1.fh _ _ h2, g3, g4, g1, k2 v g2⟩
  | _ => cases e3
end
end Kd
/-! ## promises by name; short rules for the printed derivations -/
namespace Kd
open PySem PySem.Spec PyProof.Rows L2 Kq StX ClX LamX
variable {c : Cn}
structure GFn (c : Cn) (P : Program) (w : World) (K : PySem.W.Frag) (mg : Str → Option Value) (base : Heap) (k : Nat) (x : Str) (Fs : Fn) : Prop where
  ex : ∃ a, mg x = some (.ref a) ∧ PySem.W.keepIn K (.ref a) = true ∧ FnV P w K mg base k a (spV c Fs)
structure GEr (c : Cn) (P : Program) (w : World) (K : PySem.W.Frag) (mg : Str → Option Value) (x : Str) (ks : List Str) : Prop where
  ex : ∃ C, ErrK P w K mg x C ks.length (fun vs => ks.zip vs) ∧ c.mg = mg ∧ x ∈ c.xs
section
variable {X : Cx} {W : WX} {j k : Nat} {f : Addr} {n m x : Str} {Fs Fi : Fn} {o e a b : Expr} {es : List Expr} {pos apos p np : Pos} {g : En → Out (List Ar)} {i : Nat} {fs : En → Out (List Opnd)} {K : PySem.W.Frag}
theorem de_callP (G : GFn c X.prog X.w X.K X.mg X.base k x Fs) (hgd : X.A.guards = some []) (hr : Room j X.A) (hj : k ≤ j) (tk : Takes X W) (cw : DW_ c X W es pos g) (hg : Gl X x := by rfl) (hdb : (x == ("__debug__" : Str)) = false := by decide) : DE c X W (.Call (.Name x np) es [] pos) (callS Fs g) := by
  obtain ⟨a, h1, h2, h3⟩ := G.ex
  exact de_call (calD_fn h3 hgd (hr.mono hj) tk) cw h1 h2 hg hdb
theorem df_callP (G : GFn c X.prog X.w X.K X.mg X.base k x Fs) (hgd : X.A.guards = some []) (hr : Room j X.A) (hj : k ≤ j) (tk : Takes X W) (cw : DW_ c X W es pos g) (hg : Gl X x := by rfl) (hdb : (x == ("__debug__" : Str)) = false := by decide) : DF c X W (.Call (.Name x np) es [] pos) (callN Fs g) := by
  obtain ⟨a, h1, h2, h3⟩ := G.ex
  exact df_call (calD_fn h3 hgd (hr.mono hj) tk) cw h1 h2 hg hdb
theorem ds_raiseP {ks : List Str} {fs : En → Out (List D)} {pos2 : Pos} (G : GEr c X.prog X.w X.K X.mg x ks) (hc : X.calm = true) (hr : Room j X.A) (tk : Takes X W) (ha : DA c X W (e :: es) fs) (hg : Gl X x := by rfl) (hdb : (x == ("__debug__" : Str)) = false := by decide)
    (he : starEach (e :: es) X.env = (false, eval e X.env) :: starEach es X.env := by rfl) (hpl : (backTo pos (starEach es X.env)).any (·.1) = false := by rfl) : DS c X W (.Raise (some (.Call (.Name x np) (e :: es) [] pos)) none pos2) (raiseS x ks fs) := by
  obtain ⟨C, T, hm, hx⟩ := G.ex
  exact ds_raise hc T hm hx hr tk ha hg hdb he hpl
/-! ### keywords -/
def FnKV (P : Program) (w : World) (K : PySem.W.Frag) (mg : Str → Option Value) (base : Heap) (k : Nat) (f : Addr) (ks : List Str) (sp : Sp) : Prop :=
  ∀ (A : Around) (outer : List Env) (s : Shared) (H : Hp) (u : Value) (ws : List Value) (v : V) (zs : List V) (Q : VK) (E : XK), A.guards = some [] → Room k A → Env0 P w K mg base A outer s H → RelV v u → Vals zs ws → sp (v :: zs) H Q E →
    codeAny (model P w) A (.call (.ref f) ⟨[u], ks.zip ws⟩) (CR (L2.CX P w) outer P w H s Q E) s
theorem _root_.L2.PK.imp {X : Cx} {kws : List Keyword} {t t' : L2.TA} (h : PK X kws t) (i : ∀ σ H Q, t' σ H Q → t σ H Q) : PK X kws t' := ⟨fun pos pins s σ H Q I q => h.run pos pins s σ H Q I (i _ _ _ q)⟩
variable {kws : List Keyword} {kpos : Pos} {nm : Option Str} {fe : En → Out D}
/-! ### short forms -/
theorem de_callB {id : String} {r : List V → Hp → VK → Prop} {gg : List D → Option D} (hc : CallR X (.builtin id) r) (hl : CaL c r gg) (hm : X.mg x = none) (hv : bootBuiltins x = some (.builtin id)) (ha : DOs c X W (e :: es) fs) (hg : Gl X x := by rfl) (hn : x ≠ "__name__" := by decide) (hdb : (x == ("__debug__" : Str)) = false := by decide)
    (he : starEach (e :: es) X.env = (false, eval e X.env) :: starEach es X.env := by rfl) (hpl : (backTo pos (starEach es X.env)).any (·.1) = false := by rfl) : DE c X W (.Call (.Name x np) (e :: es) [] pos) (cal gg fs) :=
  (pe_callB hc hg hm hv ha hn hdb (he := he) (hpl := hpl)).imp fun _ _ _ h => cal_i hl h
theorem de_callT {T : String} {r : List V → Hp → VK → Prop} {gg : List D → Option D} (hc : CallR X (.type T) r) (hl : CaL c r gg) (hm : X.mg x = none) (hv : bootBuiltins x = some (.type T)) (ha : DOs c X W (e :: es) fs) (hg : Gl X x := by rfl) (hn : x ≠ "__name__" := by decide) (hdb : (x == ("__debug__" : Str)) = false := by decide)
    (he : starEach (e :: es) X.env = (false, eval e X.env) :: starEach es X.env := by rfl) (hpl : (backTo pos (starEach es X.env)).any (·.1) = false := by rfl) : DE c X W (.Call (.Name x np) (e :: es) [] pos) (cal gg fs) :=
  (pe_callTy hc hg hm hv ha hn hdb (he := he) (hpl := hpl)).imp fun _ _ _ h => cal_i hl h
end
end Kd
/-! ## defs that make lambdas; odds and ends -/
namespace Kd
open PySem PySem.Spec PyProof.Rows L2 Kq StX ClX LamX
variable {c : Cn}
section
variable {X : Cx} {W : WX} {σ : L2.St} {H : Hp} {e : Expr} {pos np : Pos} {fo : En → Out Opnd} {x : Str} {K : PySem.W.Frag}
def negG : D → Option D
  | .int i => some (.int (-i))
  | _ => none
theorem de_neg (he : DO c X W e fo) : DE c X W (.UnaryOp .USub e pos) (un negG fo) := (pe_un un_neg he).imp fun σ H Q => by
  rintro ⟨π, F, R, ρ, w, h⟩
  unfold tUn
  refine tX.mk w (Post.bind h) fun x o ρ1 F1 H1 _ s1 w1 ra k1 => ?_
  obtain ⟨d', e1, k2⟩ := Post.lift_some k1 w1
  obtain ⟨d, e2, e3⟩ := Option.bind_eq_some_iff.mp e1
  have rt := ra.top w1 e2
  cases d with
  | int i => cases e3; cases rt; exact ⟨i, rfl, k2 _ (.int _)⟩
  | _ => cases e3
/-- a class's name -/
def GKn (c : Cn) (mg : Str → Option Value) (x : Str) : Prop := ∃ C, mg x = some (.ref C) ∧ c.mg = mg ∧ x ∈ c.cs ++ c.xs
theorem de_clsNP (h : GKn c X.mg x) (hg : Gl X x := by rfl) (hd : (x == ("__debug__" : Str)) = false := by decide) : DE c X W (.Name x np) (con (.cls x)) := by
  obtain ⟨C, h1, h2, h3⟩ := h
  exact de_clsN h1 h2 h3 hg hd
/-- the name of a class that an except clause tells -/
theorem names_of {C : Addr} (hg : Gl X x) (hd : (x == ("__debug__" : Str)) = false) (h : X.mg x = some (.ref C)) : Names X x (.ref C) := ⟨hg, hd, .inl h⟩
end
end Kd
namespace PySem
open Sem (wp)
open AutoSeq1 (wpAny_loadPart')
set_option maxHeartbeats 1000000 in
theorem kd_enum_newB {v : Value} {o : Obj} {H : Heap → Prop} (B : Begins v o H) :
    Meets (Builtin.«enumerate.__new__» ⟨[.type "enumerate", v], []⟩) (fun _ R s => H s.heap ∧
      R (.ok (.ret (.ref (s.heap.push o).objs.size))) { s with heap := (s.heap.push o).push { cls := .type "enumerate", data := .fields #[.none, .bool false, .ref s.heap.objs.size, rawInt 0, .none, .none] } }) :=
  .of_wp fun prog w A R s h => by
    obtain ⟨hp, g, d, tk, os⟩ := s; obtain ⟨h1, h⟩ := h
    have hsub := sub_enumerate
    have q1 : ∀ {A' : Around} {E : Value → Shared → Prop} {Q : Value → Shared → Prop}, Q (.ref hp.objs.size) ⟨hp.push o, g, d, tk, os⟩ → wpAny (model prog w) A' (pyIter v) Q E ⟨hp, g, d, tk, os⟩ :=
      fun q => B.iter prog w _ _ ⟨hp, g, d, tk, os⟩ _ h1 q
    wp_walk using q1
    refine wpAny_stack_any fun st => wpAny_pure ?_
    split
    · rename_i c _ _ _ _ _
      cases (c == Value.type "enumerate")
      · wp_walk using q1
        exact ⟨_, rfl, h⟩
      · wp_walk using q1
        exact ⟨_, rfl, h⟩
    · wp_walk using q1
      exact ⟨_, rfl, h⟩
section
variable {prog : Program} {w : World} {A : Around} {E : Value → Shared → Prop} {s : Shared}
theorem kd_enum_begins {v : Value} {o : Obj} {H : Heap → Prop} {Q : Value → Shared → Prop} (B : Begins v o H) (h1 : H s.heap)
    (h : ∀ h', IsEnum h' (s.heap.objs.size + 1) s.heap.objs.size 0 .none → h'.get? s.heap.objs.size = some o → h'.objs.size = s.heap.objs.size + 2 →
      (∀ b o, s.heap.get? b = some o → h'.get? b = some o) → Q (.ref (s.heap.objs.size + 1)) { s with heap := h' }) :
    wpAny (model prog w) A (call (.type "enumerate") [v]) Q E s := by
  refine callType_new F.called_enumerate (by decide) (F.typeCall_enumerate_1 _) (F.newCall_enumerate_1 _) (fun obj => F.args_object_init_2 obj _) F.entry_enumerate_new
    (kd_enum_newB B) ⟨h1, ?_⟩
  have hz : (s.heap.push o).objs.size = s.heap.objs.size + 1 := Heap.size_push ..
  show _ ∧ _
  rw [hz]
  have he : IsEnum ((s.heap.push o).push { cls := .type "enumerate", data := .fields #[.none, .bool false, .ref s.heap.objs.size, rawInt 0, .none, .none] }) (s.heap.objs.size + 1) s.heap.objs.size 0 .none := by
    have := Heap.get?_push_size (s.heap.push o) (o := { cls := .type "enumerate", data := .fields #[.none, .bool false, .ref s.heap.objs.size, rawInt 0, .none, .none] }) rfl
    rw [hz] at this; exact this
  refine ⟨⟨_, he, rfl⟩, h _ he (Heap.get?_push_of_some _ (Heap.get?_push_size _ B.free)) (by rw [Heap.size_push, hz]) fun b o x => Heap.get?_push_of_some _ (Heap.get?_push_of_some _ x)⟩
end
end PySem
namespace L2
open PySem PySem.Spec PyProof.Rows
/-- the tuple at a, each item in a new pair -/
def IteT (K : PySem.W.Frag) (a : Addr) : It :=
  ⟨fun i H => ∃ (xs : List V) (x : V), SqT K H a xs ∧ xs[i]? = some x, fun i H v H' => ∃ T x, v = .ref T ∧ H T = none ∧ H' = upd H T (.tup [.int (i : Nat), x]) ∧ ∀ xs, SqT K H a xs → xs[i]? = some x, fun i H => ∃ xs : List V, SqT K H a xs ∧ xs.length ≤ i⟩
theorem turn_enumT {P : Program} {w : World} {K : PySem.W.Frag} {elts : List Expr} {kk : Nat} {tpos : Pos} (a e it : Addr) :
    Turn P w K (.Tuple elts kk tpos) (IteT K a) [e, it] e (fun i h => (∃ old, IsEnum h e it ((i : Nat) : Int) old) ∧ h.IsTupleIter it a i ∧ e ≠ it ∧ a ≠ it ∧ e ≠ a) where
  mem := by simp
  obj := fun i h st b hb => by
    obtain ⟨⟨old, he⟩, ⟨o, ho, hc, hd⟩, _⟩ := st
    have e' : b = e ∨ b = it := by simpa using hb
    rcases e' with z | z
    · rw [z]; exact ⟨_, he, fun v q => nomatch q⟩
    · rw [z]; exact ⟨o, ho, fun v q => by rw [hd] at q; cases q⟩
  keep := fun i h h' st k => let ⟨⟨old, he⟩, hi, hne⟩ := st; ⟨⟨old, k e (by simp) _ he⟩, hi.at fun o q => k it (by simp) o q, hne⟩
  item := by
    intro X hP hw hK hc i pins s σ H E I hf st hg
    subst hP hw hK
    obtain ⟨⟨old, he⟩, hit, hne, hna, hea⟩ := st
    obtain ⟨xs, x, hq, hx⟩ := hg
    obtain ⟨its, rv, p, hz⟩ := I.tuple hq
    obtain ⟨u, hu, ru⟩ := rv.get hx
    have hel : e < s.heap.objs.size := Heap.lt_size he
    have hil : it < s.heap.objs.size := by obtain ⟨_, q, _⟩ := hit; exact Heap.lt_size q
    have hlt : i < its.toArray.size := by
      have := (List.getElem?_eq_some_iff.mp hu).1
      simpa using this
    refine wpAny_pyNext_enum_itemD (Draws.tuple (A := X.A.in1) (I.ok.hd hc) it a hna its.toArray) he ⟨hit, p⟩ hlt hne (by simp [hne, hea]) fun y h' tk hy ho hst' hT hsz hk => ?_
    obtain rfl : y = u := by
      have hy : its[i]? = some y := by simpa using hy
      rw [hu] at hy
      cases hy
      rfl
    refine ⟨_, rfl, wpAny_letOwnedTupleGo_enum (s := { s with heap := h', toks := tk + 1 }) ho fun h'' he' sb => ?_⟩
    have hT2 : h''.get? s.heap.objs.size = some { cls := .type "tuple", data := .seq #[.int i tk, y] } := (sb.2 _ (Nat.ne_of_gt hel)).trans hT
    have new : ObjOk X.prog X.w (upd H s.heap.objs.size (.tup [.int (i : Nat), x])) h'' s.heap.objs.size (.tup [.int (i : Nat), x]) :=
      ⟨by show 2 ≤ sizeLine; decide, [.int i tk, y], .cons ⟨_, rfl⟩ (.cons ru .nil), ⟨_, hT2, rfl, _, rfl⟩⟩
    have I1 : Inv X pins σ (upd H s.heap.objs.size (.tup [.int (i : Nat), x])) { s with heap := h'', toks := tk + 1 } :=
      I.turnedNew (ch := [e, it]) (fun b ob hb q => (sb.2 b (fun z => hb (by simp [z]))).trans (hk b ob (fun z => hb (by simp [z])) (fun z => hb (by simp [z])) q)) hf (Nat.le_refl _) new
    refine ⟨.ref s.heap.objs.size, _, I1, rfl, ⟨_, x, rfl, I.hok.fresh (Nat.le_refl _), rfl, fun ys hy => by rw [I.tuple_inj hy hq]; exact hx⟩, ⟨⟨y, ?_⟩, hst'.1.at fun o q => (sb.2 it (Ne.symm hne)).trans q, hne, hna, hea⟩, fun b hb => ?_⟩
    · have e1 : ((i + 1 : Nat) : Int) = (i : Int) + 1 := by omega
      rw [e1]; exact he'
    · have hb' : b < s.heap.objs.size := by
        have e' : b = e ∨ b = it := by simpa using hb
        rcases e' with z | z
        · rw [z]; exact hel
        · rw [z]; exact hil
      rw [upd_ne (Nat.ne_of_lt hb')]
      exact (hf b hb).1
  done := by
    intro X hP hw hK hc i pins s σ H E I hf st hg
    subst hP hw hK
    obtain ⟨⟨old, he⟩, hit, hne, hna, hea⟩ := st
    obtain ⟨xs, hq, hx⟩ := hg
    obtain ⟨its, rv, p, hz⟩ := I.tuple hq
    obtain ⟨f0, f1, f2, f3, f4, f5⟩ := hf it (by simp)
    have hl := rv.length
    have hT : s.TypeIs (.ref e) "enumerate" := ⟨_, he, rfl⟩
    unfold pyNext
    refine wpAny_bind (wpAny_attempt (wpAny_callSpecial?_slot (name := Str.ofString "__next__") hT F.slot_enumerate_next
      (wpAny_call_entry F.slot_enumerate_next hT F.entry_enumerate_next ?_ (F.args_enumerate_next_1 _))))
    show wpAny _ _ (field (.ref e) 2 >>= _) _ _ _
    refine wpAny_bind (wpAny_field he rfl (x := .ref it) rfl ?_)
    refine wpAny_bind (PySem.wpAny_nextOf_tuple_end (A := X.A.in1) (I.ok.hd hc) hit p (by simp; omega) fun h' x he' hx' => ?_)
    obtain ⟨o, ho, hc⟩ := hx'
    refine wpAny_bind (wpAny_isInstance (T := "StopIteration") (b := true) ⟨o, ho, hc⟩ isSubtype_stop ?_)
    exact wpAny_pure ⟨rfl, I.turned (t' := s.toks) (fun b o hb q => he' b o hb q) f0 f1 f3 f4 f5⟩
  self := fun A i s Q E st h => let ⟨⟨_, he⟩, _⟩ := st; wpAny_pyIter_enum he h
def iEnumA (K : PySem.W.Frag) (ta : TA) : TI := fun σ H R => ta σ H fun vs H1 => ∃ a xs, vs = [.ref a] ∧ ((SqL K H1 a xs ∧ R (Ite K a) H1) ∨ (SqT K H1 a xs ∧ R (IteT K a) H1))
theorem pi_enumA {X : Cx} {e : Expr} {ta : TA} {p pos tpos : Pos} {elts : List Expr} {kk : Nat} (hg : Gl X "enumerate") (hm : X.mg "enumerate" = none) (ha : PA X [e] ta) (hs : starEach [e] X.env = [(false, eval e X.env)] := by rfl) :
    PI X (.Tuple elts kk tpos) (.Call (.Name "enumerate" p) [e] [] pos) (iEnumA X.K ta) := by
  refine ⟨fun pins s σ H R I h => ?_⟩
  refine Call_ (ld_blt I hg hm boot_enumerate (PyProof.Rows.callWith_type1 (thn (ha.run pos pins s σ H _ I h) fun us s1 ⟨vs, H1, I1, r1, q1⟩ => ?_) hs rfl))
  obtain ⟨a, xs, ex, q1⟩ := q1
  subst ex
  cases r1 with
  | cons r rr =>
    cases rr
    cases r
    have fp : ∀ b ∈ [s1.heap.objs.size + 1, s1.heap.objs.size], FpOk X pins H1 b := fun b hb => by
      have e' : b = s1.heap.objs.size + 1 ∨ b = s1.heap.objs.size := by simpa using hb
      have hle : s1.heap.objs.size ≤ b := by
        rcases e' with z | z
        · rw [z]; exact Nat.le_add_right _ _
        · rw [z]; exact Nat.le_refl _
      exact I1.fpOk hle (I1.hok.fresh hle)
    rcases q1 with ⟨hq, q⟩ | ⟨hq, q⟩
    · obtain ⟨its, rv, p', hz⟩ := I1.list hq
      refine call_enumerate_list p'.isList fun h' he hit hsz hk => wpAny_pyIter_enum he ?_
      have I2 : Inv X pins σ H1 { s1 with heap := h' } := I1.kept (t' := s1.toks) hk
      exact ⟨s1.heap.objs.size + 1, [s1.heap.objs.size + 1, s1.heap.objs.size], _, _, H1, rfl, I2, turn_enum a (s1.heap.objs.size + 1) s1.heap.objs.size, ⟨⟨.none, he⟩, hit, Nat.succ_ne_self _⟩, fp, q⟩
    · obtain ⟨its, rv, p', hz⟩ := I1.tuple hq
      have hlt : a < s1.heap.objs.size := by obtain ⟨_, q, _⟩ := p'; exact Heap.lt_size q
      refine kd_enum_begins (begins_tuple a its.toArray) p' fun h' he hit hsz hk => wpAny_pyIter_enum he ?_
      have I2 : Inv X pins σ H1 { s1 with heap := h' } := I1.kept (t' := s1.toks) hk
      exact ⟨s1.heap.objs.size + 1, [s1.heap.objs.size + 1, s1.heap.objs.size], _, _, H1, rfl, I2, turn_enumT a (s1.heap.objs.size + 1) s1.heap.objs.size, ⟨⟨.none, he⟩, ⟨_, hit, rfl, rfl⟩, Nat.succ_ne_self _, Nat.ne_of_lt hlt, Nat.ne_of_gt (Nat.lt_succ_of_lt hlt)⟩, fp, q⟩
end L2
/-! ## enumerate over lists and tuples; dicts -/
namespace Kd
open PySem PySem.Spec PyProof.Rows L2 Kq StX
variable {c : Cn}
section
variable {W : WX} {X : Cx} {π : List (Nat × Addr)} {F F1 F' R H H1 H' : Hp} {σ σ' : L2.St} {ρ ρ1 ρ' : En} {i : Nat} {p : Addr} {d : D} {o : HO} {e elt tg iter : Expr} {f : En → Out D}
def asQ : D → Option (List D)
  | .lst ds => some ds
  | .tup ds => some ds
  | _ => none
def enumI (fs : En → Out D) : En → Out (List D) := fun ρ => (fs ρ).bind fun d ρ1 => lift ((asQ d).map (numbered 0)) ρ1
theorem di_enumA {e : Expr} {p pos tpos : Pos} {elts : List Expr} {kk : Nat} (hg : Gl X "enumerate") (hm : X.mg "enumerate" = none) (he : DE c X W e f) (hs : starEach [e] X.env = [(false, eval e X.env)] := by rfl) :
    DI c X W (.Tuple elts kk tpos) (.Call (.Name "enumerate" p) [e] [] pos) (enumI f) := (pi_enumA hg hm (pa_cons he pa_nil hs) hs).imp fun σ H Q => by
  rintro ⟨π, F, R, ρ, w, h⟩
  unfold iEnumA tCons tNil
  refine tX.mk w (Post.bind h) fun v d ρ1 F1 H1 e1 s1 w1 ra k1 => ?_
  obtain ⟨os, e2, k2⟩ := Post.lift_some k1 w1
  obtain ⟨ds, e3, e4⟩ := Option.map_eq_some_iff.mp e2
  subst e4
  have turn : ∀ {xs : List V} {ds : List D} {i : Nat} {F2 H H' : Hp} {x : V}, Reps c F1 xs ds → Same F1 F2 → Same F2 H → YPair (fun i => some (.int (i : Nat))) (fun i => xs[i]?) i H x H' → ∃ F3 d, Grow F2 H F3 H' ∧ (numbered 0 ds)[i]? = some d ∧ Rep c F3 x d := by
    intro xs ds i F2 H H' x rs t1 t2 hy
    obtain ⟨T, x', y', rfl, hn, rfl, hx, hy⟩ := hy
    cases hx
    obtain ⟨dy, g1, g2⟩ := rs.getV hy
    obtain ⟨F3, g, r⟩ := pair_grow (x := .int (i : Nat)) t2 hn (.int (i : Nat)) (g2.mono t1)
    exact ⟨F3, _, g, by rw [numbered_get, g1]; simp, r⟩
  cases ra with
  | lst eq rs =>
    cases e3
    rename_i a xs
    refine ⟨a, xs, rfl, .inl ⟨SqL.of (w1.fh _ _ eq), k2 _ ?_⟩⟩
    show WalkD c _ F1 _
    unfold WalkD
    rw [numbered_length, ← rs.length]
    exact walk_enum.mono (fun H hs => SqL.of (hs _ _ eq)) fun i H x H' hi hs hy F2 t1 t2 => turn rs t1 t2 hy
  | tup eq rs =>
    cases e3
    rename_i a xs
    refine ⟨a, xs, rfl, .inr ⟨SqT.of (w1.fh _ _ eq), k2 _ ?_⟩⟩
    show WalkD c _ F1 _
    unfold WalkD
    rw [numbered_length, ← rs.length]
    refine ⟨fun i H hi q => ⟨xs, xs[i], SqT.of (q _ _ eq), by simp [hi]⟩, fun _ q => ⟨xs, SqT.of (q _ _ eq), Nat.le_refl _⟩, fun i H v H' _ q y F2 t1 t2 => ?_⟩
    obtain ⟨T, x, h1, h2, h3, h4⟩ := y
    exact turn rs t1 t2 ⟨T, .int (i : Nat), x, h1, h2, h3, rfl, h4 xs (SqT.of (q _ _ eq))⟩
  | _ => cases e3
/-! ### dict comprehensions -/
def keyD : D → Option Key
  | .int i => some (.inl i)
  | .str x => some (.inr x)
  | _ => none
def putDs (k : Key) (d : D) : List Key → List D → List D
  | k0 :: ks, d0 :: ds => (if k0 = k then d else d0) :: putDs k d ks ds
  | _, _ => []
def hasK (ks : List Key) (k : Key) : Bool := ks.any fun k0 => decide (k0 = k)
def putDK (k : Key) (d : D) (ks : List Key) (ds : List D) : List Key × List D := if hasK ks k = true then (ks, putDs k d ks ds) else (ks ++ [k], ds ++ [d])
def dcL (g : D → En → Option En) (t : En → Out Bool) (fk fv : En → Out D) (vs : List Nat) : List D → En → List Key → List D → Option ((List Key × List D) × En)
  | [], ρ, ks, es => some ((ks, es), ρ)
  | d :: ds, ρ, ks, es => match g d ρ with
    | none => none
    | some ρ1 => match t ρ1 with
      | .ok true ρ2 => (match fk ρ2 with
        | .ok y ρ3 => (match keyD y with
          | some k => (match fv ρ3 with
            | .ok z ρ4 => if okW 0 vs ρ4 = true then dcL g t fk fv vs ds (wip 0 vs ρ4) (putDK k z ks es).1 (putDK k z ks es).2 else none
            | _ => none)
          | none => none)
        | _ => none)
      | .ok false ρ2 => if okW 0 vs ρ2 = true then dcL g t fk fv vs ds (wip 0 vs ρ2) ks es else none
      | _ => none
def dcS (fi : En → Out (List D)) (g : D → En → Option En) (t : En → Out Bool) (fk fv : En → Out D) (vs : List Nat) : En → Out D := fun ρ => (fi ρ).bind fun ds ρ1 =>
  if okW 0 vs ρ1 = true ∧ ds.length ≤ 4096 then (match dcL g t fk fv vs ds (wip 0 vs ρ1) [] [] with
    | some (r, ρ2) => .ok (.dct r.1 r.2) (rest 0 vs ρ1 ρ2)
    | none => .no) else .no
variable {kx vx : Expr} {ifs : List Expr} {scope : Scope} {own : List (Str × Nat)} {pos spos py : Pos} {fi : En → Out (List D)} {is : List Nat} {g : D → En → Option En} {t : En → Out Bool} {fk fv : En → Out D}
/-! ### {"a": e} -/
def dct1 (x : Str) (f : En → Out D) : En → Out D := fun ρ => match f ρ with
  | .ok d ρ1 => .ok (.dct [.inr x] [d]) ρ1
  | _ => .no
theorem df_dict1 {x : Str} {j} {p1 pos : Pos} (he : DE c X W e f) : DF c X W (.Dict [some (.Constant (.str x) j p1)] [e] pos) (dct1 x f) := (pe_disp (pps_cons pe_str he pps_nil) rfl rfl (by nofun) (show (1 : Nat) ≤ 15 by decide)).imp fun σ H Q => by
  rintro ⟨π, F, R, ρ, w, h⟩
  intro A hA
  obtain ⟨w2, n1, n2, n3⟩ := fresh_new (o := .dK []) w hA
  have w3 := w2.frame upd_same (fun _ => nofun) (fun _ => nofun) n1 n3
  show tE c W f σ _ _
  refine ⟨π, F, _, ρ, w3, ?_⟩
  revert h
  unfold dct1
  cases f ρ with
  | no => exact fun h => h.elim
  | exc n ks ds ρ1 => exact fun h => h.elim
  | ok d ρ1 =>
    intro h F1 H1 s1 w4 v rv
    refine ⟨w4.rh _ _ upd_same, [(.inr x, v)], rfl, (show (1 : Nat) ≤ 15 by decide), ?_⟩
    have w5 := w4.poke (o' := .dK [(.inr x, v)]) (by intro _ h; cases h) (by intro _ h; cases h) (by intro _ h; cases h) (by intro _ h; cases h) n2
    obtain ⟨w6, e1, e2, e3⟩ := w5.unframe n2
    exact h F1 _ s1 w6 A ⟨⟨e2, n2, _, e1, rfl, .cons rv .nil⟩, e3⟩
end
end Kd
/-! ## facts under another meaning of the lambdas; sorting as a function -/
namespace Kd
open PySem PySem.Spec PyProof.Rows L2 Kq StX ClX LamX
variable {c : Cn}
/-! ### sorting -/
def insU (x : Str) : List Str → List Str
  | [] => [x]
  | y :: l => if LtS x y then x :: y :: l else if LtS y x then y :: insU x l else y :: l
def srtU : List Str → List Str
  | [] => []
  | x :: l => insU x (srtU l)
def LeS (a b : Str) : Prop := ¬ LtS b a
theorem LeS.trans {a b d : Str} (h1 : LeS a b) (h2 : LeS b d) : LeS a d := fun h => by
  by_cases q : LtS a b
  · exact h2 (h.trans q)
  · have e := LtS.tri q h1
    subst e
    exact h2 h
end Kd
/-! ## the head: own errors, isinstance, fields, all by what is written -/
namespace Kd
open PySem PySem.Spec PyProof.Rows L2 Kq StX ClX LamX
open PySem.W (ksFn ksEnv findIn typeIn keepIn subIn mroIn nsIn codeIn clsIn alongIn)
open PySem.ErrX
section
variable {P : Program} {w : World} {K : PySem.W.Frag} {mg : Str → Option Value} {C fI cc cda : Addr} {x qual par par2 : Str} {st : Stmt} {kV doc pm ct : Value} {an : Option Addr}
theorem errK1 (gC : mg x = some (.ref C)) (nsup : mg "super" = none) (T : Err P K C fI cc cda qual (defScope st) (ksFn "__init__" qual (defArgs st) (defBody st) (defScope st) .none kV doc pm an (.ref cda) ct cc))
    {p0 p1 p2 p3 p4 p5 q1 q2 q3 q4 : Pos} {k3 : Nat} {txt : Str} (hbody : defBody st = [supS p0 p1 p2 p3 p4 p5 k3 txt, PySem.ErrX.asgS par q1 q2 q3 q4]) (hS : ∀ L, SupT (ksEnv qual (defScope st) L fI (.ref cda) cc) p0 p1 p2 p3 p4 p5 k3 txt)
    (hsw : ∀ L, swapsWith (.Name par q3) (some (.Attribute (.Name "self" q1) par q2)) q4.line (ksEnv qual (defScope st) L fI (.ref cda) cc) = pure false)
    (hcd : codeIn K (.ref cda) qual = true) (hpar : (defScope st).names.lookup par = some .local) (hne : par ≠ "self") (hdbg : (par == ("__debug__" : Str)) = false) (hcell : ∀ x ∈ (defScope st).names, x.2 ≠ .cell) (hco : (defScope st).isCoroutine = false) (hgen : (defScope st).isGenerator = false)
    (hno : findIn K (.ref C) par = some none)
    (hbind : ∀ (s : Shared) (u v : Value), BindsTo s (ksFn "__init__" qual (defArgs st) (defBody st) (defScope st) .none kV doc pm an (.ref cda) ct cc) ⟨[u, v], []⟩ [("self", u), (par, v)]) :
    ErrK P w K mg x C 1 (fun vs => ([par] : List Str).zip vs) := by
  refine ⟨gC, by decide, fI, cc, cda, qual, defScope st, _, T, fun vs us r hl => ?_⟩
  match vs, us, r, hl with
  | [v], [u], .cons r .nil, _ =>
    refine ⟨fun y => if y = par then some u else none, fun A R s y t0 mb X hlim G B hb hx hnx hroom hq => ?_, fun f => ?_⟩
    · exact err_init1 T hbody hS hsw hcd hpar hne hdbg hcell hco hgen hno X hlim G nsup B hb hx hnx hroom (hbind s _ u) hq
    · show RelO (([(par, v)] : List (Str × V)).lookup f) _
      rw [List.lookup_cons]
      by_cases e : f = par
      · subst e
        have q : RelO (some v) (some u) := r; simpa using q
      · have : (f == par) = false := by simpa using e
        rw [this]
        show RelO none (if f = par then some u else none)
        rw [if_neg e]
        trivial
theorem errK2 (gC : mg x = some (.ref C)) (nsup : mg "super" = none) (T : Err P K C fI cc cda qual (defScope st) (ksFn "__init__" qual (defArgs st) (defBody st) (defScope st) .none kV doc pm an (.ref cda) ct cc))
    {p0 p1 p2 p3 p4 p5 q1 q2 q3 q4 r1 r2 r3 r4 : Pos} {k3 : Nat} {txt : Str} (hbody : defBody st = [supS p0 p1 p2 p3 p4 p5 k3 txt, PySem.ErrX.asgS par q1 q2 q3 q4, PySem.ErrX.asgS par2 r1 r2 r3 r4]) (hS : ∀ L, SupT (ksEnv qual (defScope st) L fI (.ref cda) cc) p0 p1 p2 p3 p4 p5 k3 txt)
    (hsw : ∀ L, swapsWith (.Name par q3) (some (.Attribute (.Name "self" q1) par q2)) q4.line (ksEnv qual (defScope st) L fI (.ref cda) cc) = pure false) (hsw2 : ∀ L, swapsWith (.Name par2 r3) (some (.Attribute (.Name "self" r1) par2 r2)) r4.line (ksEnv qual (defScope st) L fI (.ref cda) cc) = pure false)
    (hcd : codeIn K (.ref cda) qual = true) (hpar : (defScope st).names.lookup par = some .local) (hpar2 : (defScope st).names.lookup par2 = some .local) (hne : par ≠ "self") (hne2 : par2 ≠ "self") (hne3 : par ≠ par2) (hdbg2 : (par2 == ("__debug__" : Str)) = false) (hdbg : (par == ("__debug__" : Str)) = false) (hcell : ∀ x ∈ (defScope st).names, x.2 ≠ .cell) (hco : (defScope st).isCoroutine = false) (hgen : (defScope st).isGenerator = false)
    (hno : findIn K (.ref C) par = some none) (hno2 : findIn K (.ref C) par2 = some none)
    (hbind : ∀ (s : Shared) (u v v2 : Value), BindsTo s (ksFn "__init__" qual (defArgs st) (defBody st) (defScope st) .none kV doc pm an (.ref cda) ct cc) ⟨[u, v, v2], []⟩ [("self", u), (par, v), (par2, v2)]) :
    ErrK P w K mg x C 2 (fun vs => ([par, par2] : List Str).zip vs) := by
  refine ⟨gC, by decide, fI, cc, cda, qual, defScope st, _, T, fun vs us r hl => ?_⟩
  match vs, us, r, hl with
  | [v, v2], [u, u2], .cons r (.cons r' .nil), _ =>
    refine ⟨fun y => if y = par2 then some u2 else if y = par then some u else none, fun A R s y t0 mb X hlim G B hb hx hnx hroom hq => ?_, fun f => ?_⟩
    · exact err_init2 T hbody hS hsw hsw2 hcd hpar hpar2 hne hne2 hne3 hdbg2 hdbg hcell hco hgen hno hno2 X hlim G nsup B hb hx hnx hroom (hbind s _ u u2) hq
    · show RelO (([(par, v), (par2, v2)] : List (Str × V)).lookup f) _
      rw [List.lookup_cons, List.lookup_cons]
      by_cases e : f = par
      · subst e
        have q : RelO (some v) (some u) := r; simpa [hne3] using q
      · have e1 : (f == par) = false := by simpa using e
        rw [e1]
        by_cases e2 : f = par2
        · subst e2
          have q : RelO (some v2) (some u2) := r'; simpa using q
        · have : (f == par2) = false := by simpa using e2
          rw [this]
          show RelO none (if f = par2 then some u2 else if f = par then some u else none)
          rw [if_neg e2, if_neg e]
          trivial
end
/-! ### isinstance, fields: one check of what is written -/
def isC (K : PySem.W.Frag) (C : Addr) : Bool := decide (findIn K (.ref C) "__class__" = some (some (.builtin "object.__class__"))) && (decide (PySem.W.specialIn K (.builtin "object.__class__") "__get__" = some (some (.builtin "getset_descriptor.__get__"))) && (decide (PySem.W.takesIn K (.builtin "object.__class__") = some true) && decide (mroIn K C (.type "object") = some true)))
def clB (K : PySem.W.Frag) (C : Addr) : Bool := PySem.W.plainGet K C Str.empty && (PySem.W.hasDictIn K C && (PySem.W.plainOver K C && (decide (findIn K (.ref C) "__setattr__" = some (some (.builtin "object.__setattr__"))) && isC K C)))
def exB (K : PySem.W.Frag) (C : Addr) : Bool := L2.xfB K C && isC K C
theorem isC_ok {K : PySem.W.Frag} {C : Addr} (h : isC K C = true) : findIn K (.ref C) "__class__" = some (some (.builtin "object.__class__")) ∧ PySem.W.specialIn K (.builtin "object.__class__") "__get__" = some (some (.builtin "getset_descriptor.__get__")) ∧ PySem.W.takesIn K (.builtin "object.__class__") = some true ∧ mroIn K C (.type "object") = some true := by
  unfold isC at h
  simp only [Bool.and_eq_true, decide_eq_true_eq] at h
  exact h
theorem clB_ok {K : PySem.W.Frag} {C : Addr} (h : clB K C = true) : Cls K C ∧ isC K C = true := by
  unfold clB at h
  simp only [Bool.and_eq_true, decide_eq_true_eq] at h
  obtain ⟨h1, h2, h3, h4, h5⟩ := h
  exact ⟨⟨h1, h2, h3, h4⟩, h5⟩
theorem exB_ok {K : PySem.W.Frag} {C : Addr} (h : exB K C = true) : XfC K C ∧ ExcC K C := by
  unfold exB at h
  rw [Bool.and_eq_true] at h
  have a := xfB_ok h.1
  obtain ⟨b1, b2, b3, b4⟩ := isC_ok h.2
  exact ⟨a, ⟨a.ga, a.gg, a.exC, a.hdC, b1, b2, b3, b4⟩⟩
/-- what the classes of a module are to each other and to the built-in ones -/
def oneB (K : PySem.W.Frag) (l : List (Str × Addr)) (sup : Str → List Str) : Bool := l.all fun p => l.all fun q => decide (PySem.W.kitOne K (.ref p.2) (.ref q.2) = some (decide (q.1 ∈ sup p.1)))
def tyB (K : PySem.W.Frag) (l : List (Str × Addr)) : Bool := l.all fun q => tys7.all fun t => decide (PySem.W.kitOne K (.type t) (.ref q.2) = some false)
def ctB (K : PySem.W.Frag) (l : List (Str × Addr)) : Bool := l.all fun q => tys5.all fun t => decide (PySem.W.kitOne K (.ref q.2) (.type t) = some false)
def xfdB (K : PySem.W.Frag) (l : List (Str × Addr)) (f : Str) : Bool := l.all fun p => decide (findIn K (.ref p.2) f = some none)
def subB (K : PySem.W.Frag) (l : List (Str × Addr)) (cv : Value) (sub : Str → Bool) : Bool := l.all fun p => decide (PySem.W.exmOne K (.ref p.2) cv = some (sub p.1))
abbrev cnOf (K : PySem.W.Frag) (mg : Str → Option Value) (cl xl : List (Str × Addr)) (T : List (Addr × Str)) : Cn := ⟨K, mg, cl.map (·.1), xl.map (·.1), T, fun _ _ _ => False, fun _ _ _ _ _ h => h⟩
section
variable {K : PySem.W.Frag} {mg : Str → Option Value} {cl xl l : List (Str × Addr)} {T : List (Addr × Str)} {sup : Str → List Str}
theorem at_of (hm : ∀ p ∈ l, mg p.1 = some (.ref p.2)) {n : Str} {C : Addr} (h : n ∈ l.map (·.1)) (e : mg n = some (.ref C)) : (n, C) ∈ l := by
  obtain ⟨⟨n', C'⟩, h1, h2⟩ := List.mem_map.mp h
  have h2 : n' = n := h2
  subst h2
  have := (hm _ h1).symm.trans e
  cases this
  exact h1
theorem iso_of (hm : ∀ p ∈ cl ++ xl, mg p.1 = some (.ref p.2)) (h1 : cl.all (fun p => clB K p.2) = true) (h2 : xl.all (fun p => exB K p.2) = true) (h3 : oneB K (cl ++ xl) sup = true) (h4 : tyB K (cl ++ xl) = true) (h5 : ctB K (cl ++ xl) = true) : IsOk (cnOf K mg cl xl T) K sup := by
  have hl : ∀ p ∈ cl, mg p.1 = some (.ref p.2) := fun p hp => hm p (List.mem_append_left _ hp)
  have hx : ∀ p ∈ xl, mg p.1 = some (.ref p.2) := fun p hp => hm p (List.mem_append_right _ hp)
  have ap : ∀ {n : Str}, n ∈ (cnOf K mg cl xl T).cs ++ (cnOf K mg cl xl T).xs → n ∈ (cl ++ xl).map (·.1) := fun {n} h => by rw [List.map_append]; exact h
  refine ⟨fun n C i e H b dx fs hb => ?_, fun n C i e => ?_, fun n C m B i e j e2 => ?_, fun t m B i j e => ?_, fun n C t i j e => ?_⟩
  · have q := List.all_eq_true.mp h1 _ (at_of hl i e)
    obtain ⟨a, b'⟩ := clB_ok q
    obtain ⟨b1, b2, b3, b4⟩ := isC_ok b'
    exact .base (.ins hb a b1 b2 b3 b4)
  · exact (exB_ok (List.all_eq_true.mp h2 _ (at_of hx i e))).2
  · exact of_decide_eq_true (List.all_eq_true.mp (List.all_eq_true.mp h3 _ (at_of hm (ap i) e)) _ (at_of hm (ap j) e2))
  · exact of_decide_eq_true (List.all_eq_true.mp (List.all_eq_true.mp h4 _ (at_of hm (ap j) e)) _ i)
  · exact of_decide_eq_true (List.all_eq_true.mp (List.all_eq_true.mp h5 _ (at_of hm (ap j) e)) _ i)
theorem xfd_of {f : Str} (hm : ∀ p ∈ cl ++ xl, mg p.1 = some (.ref p.2)) (h2 : xl.all (fun p => exB K p.2) = true) (h : xfdB K xl f = true) : XfdOk (cnOf K mg cl xl T) K f := fun n C i e => by
  have q := at_of (fun p hp => hm p (List.mem_append_right _ hp)) i e
  exact ⟨(exB_ok (List.all_eq_true.mp h2 _ q)).1, of_decide_eq_true (List.all_eq_true.mp h _ q)⟩
theorem sub_of {cv : Value} {sub : Str → Bool} (hm : ∀ p ∈ cl ++ xl, mg p.1 = some (.ref p.2)) (h : subB K xl cv sub = true) : SubOk (cnOf K mg cl xl T) K cv sub := fun n C i e =>
  of_decide_eq_true (List.all_eq_true.mp h _ (at_of (fun p hp => hm p (List.mem_append_right _ hp)) i e))
end
/-! ### the end -/
theorem to0 {P : Program} {w : World} {K : PySem.W.Frag} {mg : Str → Option Value} {base : Heap} {k : Nat} {f : Addr} {fd : FuncData} {ps : List Str} {sp : Sp} (F : FnG P w K mg base (L2.CX P w) k f fd ps sp) :
    FnG P w K mg base C8.CX0 k f fd ps (fun vs H Q _ => sp vs H Q fun _ _ _ => False) := by
  refine ⟨fun vs H Q E h => F.len _ _ _ _ h, fun A outer s H args us vs Q E hgd hr e0 hb r h => codeAny_mono (F.run A outer s H args us vs Q _ hgd hr e0 hb r h) fun rs s' q => ?_⟩
  cases rs with
  | ok fl => cases fl <;> exact q
  | error e =>
    obtain ⟨_, _, _, _, _, _, _, _, _, _, _, _, z⟩ := q
    exact z
/-- the law's promise, read at the start: what the body gives of the script is True -/
theorem tabs_new {T : List (Addr × Str)} {H : Hp} (h : ∀ p ∈ T, H p.1 = some (.tbl #[])) : Tabs T H := fun p hp => ⟨#[], h p hp, trivial, fun pos cv hc => by
  have z : codeAmong pos [] = some cv := hc
  simp [codeAmong] at z⟩
theorem law_ends {c : Cn} {b : En → SOut} {m : Nat} {H : Hp} {a : Addr} {ns : List Int} (hT : ∀ p ∈ c.T, H p.1 = some (.tbl #[])) (hS : SqL c.K H a (ns.map V.int)) (hd : ∃ as, bodyF m b [.val (.scr ns)] = .ret false (.bl true) as) :
    spD c 1 (bodyF m b) [.ref a] H (fun v _ => v = .bl true) (fun _ _ _ => False) := by
  have main : ∀ F : Hp, Same F H → (∀ p ps, F p ≠ some (.tbl ps)) → SqL c.K F a (ns.map V.int) → spD c 1 (bodyF m b) [.ref a] H (fun v _ => v = .bl true) (fun _ _ _ => False) := by
    intro F sF nF sq
    refine ⟨rfl, [], F, fun _ => none, [.val (.scr ns)], ⟨rfl, sF, (fun _ _ e => by cases e), fun p h => absurd rfl h, fun i x e => ?_, fun i j p _ h _ _ _ => ?_, fun i d e => ?_, (fun i p h => by simp at h), ⟨tabs_new hT, nF, (fun _ _ e => by cases e), (fun _ _ e => by cases e)⟩⟩, fun i d e => ?_, ?_⟩
    · cases i with
      | zero => cases e; exact ⟨_, rfl, .scr sq⟩
      | succ i => simp at e
    · cases i <;> simp [owned] at h
    · cases i <;> simp at e
    · cases i <;> simp at e
    · obtain ⟨as, e⟩ := hd
      rw [e]
      intro v F' H' _ _ r
      have r : Rep c F' v (.bl true) := r
      cases r
      rfl
  rcases hS with h | h
  · refine main (fun b => if b = a then H a else none) (fun b o e => ?_) (fun p ps e => ?_) ?_
    · dsimp only at e
      split at e
      · rename_i z; rw [z]; exact e
      · cases e
    · split at e
      · rcases h with h | ⟨o, h⟩ <;> rw [h] at e <;> cases e
      · cases e
    · rcases h with h | ⟨o, h⟩
      · exact .inl (.inl ((if_pos rfl).trans h))
      · exact .inl (.inr ⟨o, (if_pos rfl).trans h⟩)
  · exact main (fun _ => none) (fun _ _ e => by cases e) (fun _ _ e => by cases e) (.inr h)
end Kd
/-! ## the head: tables of methods -/
namespace Kd
open PySem PySem.Spec PyProof.Rows L2 Kq StX ClX LamX
variable {c : Cn}
section
variable {P : Program} {w : World} {K : PySem.W.Frag} {mg : Str → Option Value} {base : Heap} {j : Nat} {m : Str} {ks : List Str}
theorem FnKV.mono {i : Nat} {f : Addr} {sp : Sp} (F : FnKV P w K mg base i f ks sp) (h : i ≤ j) : FnKV P w K mg base j f ks sp :=
  fun A outer s H u ws v zs Q E g hr e0 r rz q => F A outer s H u ws v zs Q E g (hr.mono h) e0 r rz q
variable {k : Nat} {f : Addr} {fd : FuncData} {N ps : List Str} {x qual : Str} {st : Stmt} {b : En → SOut}
end
end Kd
/-! ## plain laws: steps, and what is flat -/
namespace Kd
open PySem
theorem seqS_nx {g h : En → SOut} {ρ ρ' : En} (e : g ρ = .nx ρ') : seqS g h ρ = h ρ' := by unfold seqS; rw [e]
theorem seqS_rt {g h : En → SOut} {ρ ρ' : En} {fr : Bool} {d : D} (e : g ρ = .rt fr d ρ') : seqS g h ρ = .rt fr d ρ' := by unfold seqS; rw [e]
theorem bodyF_rt {m : Nat} {b : En → SOut} {as ρ : En} {fr : Bool} {d : D} (e : b (as ++ List.replicate (m - as.length) .un) = .rt fr d ρ) : bodyF m b as = .ret fr d (mrg as ρ) := by unfold bodyF; rw [e]
theorem mulOk_l {i j : Int} (h : -big64 < i ∧ i < big64) : mulOk i j = true := by
  unfold mulOk
  rw [decide_eq_true h]
  rfl
theorem pyNs_ints : ∀ cs : List Int, pyNs (cs.map .int) = some (cs.map .int)
  | [] => rfl
  | c :: cs => by simp [pyNs, pyN, pyNs_ints cs]
theorem lay_ints : ∀ cs : List Int, PyData.canLayAll0 (cs.map .int) = true
  | [] => rfl
  | c :: cs => by simp [PyData.canLayAll0, PyData.canLay0, lay_ints cs]
theorem depth_ints : ∀ cs : List Int, PyData.depthAll (cs.map .int) = 0
  | [] => rfl
  | c :: cs => by simp [PyData.depthAll, PyData.depth, depth_ints cs]
theorem eqv_nil (xs : List PyData) : PyData.eqvAll xs [] = xs.isEmpty := by cases xs <;> rfl
theorem ne_ints (cs : List Int) : neG (.lst (cs.map .int)) (.lst []) = some (.bl (!cs.isEmpty)) := by
  simp [neG, pyN, pyNs_ints, pyNs, SeqAt.shaped, PyData.canLay0, lay_ints, PyData.canLayAll0, PyData.depth, depth_ints, PyData.depthAll, PyData.eqv, eqv_nil]
theorem ne_nil : neG (.lst []) (.lst []) = some (.bl false) := ne_ints []
/-- what draws: the script's numbers, how many draws were made, what is left of a great number -/
def pen (cs : List Int) (a g : Int) : D := .lst [.lst (cs.map .int), .int a, .int g]
def PenOk (b : Nat) (p : D) : Prop := ∃ (cs : List Int) (a : Nat) (g : Int), p = pen cs a g ∧ a ≤ b ∧ cs.length ≤ 63
theorem PenOk.mono {b b' : Nat} {p : D} (h : PenOk b p) (l : b ≤ b') : PenOk b' p := by
  obtain ⟨cs, a, g, e, h1, h2⟩ := h
  exact ⟨cs, a, g, e, by omega, h2⟩
theorem at0 {α : Type} {a : α} {l : List α} : L2.atI (a :: l) 0 = some a := by
  have h : (0 : Int) < ((a :: l).length : Int) := by rw [List.length_cons]; omega
  unfold L2.atI L2.ixN
  rw [if_pos (by decide), if_pos h]
  rfl
theorem at1 {α : Type} {a b : α} {l : List α} : L2.atI (a :: b :: l) 1 = some b := by
  have h : (1 : Int) < ((a :: b :: l).length : Int) := by rw [List.length_cons, List.length_cons]; omega
  unfold L2.atI L2.ixN
  rw [if_pos (by decide), if_pos h]
  rfl
theorem at2 {α : Type} {a b c : α} {l : List α} : L2.atI (a :: b :: c :: l) 2 = some c := by
  have h : (2 : Int) < ((a :: b :: c :: l).length : Int) := by rw [List.length_cons, List.length_cons, List.length_cons]; omega
  unfold L2.atI L2.ixN
  rw [if_pos (by decide), if_pos h]
  rfl
theorem atI_ok {cs : List Int} {j : Int} (h1 : 0 ≤ j) (h2 : j < cs.length) : ∃ c, L2.atI (cs.map D.int) j = some (.int c) := by
  refine ⟨cs[j.toNat]'(by omega), ?_⟩
  unfold L2.atI L2.ixN
  rw [if_pos h1, if_pos (by simpa using h2)]
  simp
end Kd
/-! ## plain laws: comprehensions that change nothing -/
namespace Kd
open PySem
theorem fVs_strs : ∀ ws : List Str, fVs (ws.map .str) = some (ws.map L2.V.str)
  | [] => rfl
  | x :: ws => by simp [fVs, fV, fVs_strs ws]
end Kd
/-! ## plain laws: what holds behind a text, worked out from the head on; what is still to come stands in frames that nothing looks into -/
namespace Kd
open PySem
abbrev XP := Str → List Str → List D → En → Prop
def noX : XP := fun _ _ _ _ => False
def Out.W {α : Type} (o : Out α) (X : XP) (Q : α → En → Prop) : Prop := match o with
  | .ok a ρ => Q a ρ
  | .exc n ks ds ρ => X n ks ds ρ
  | .no => False
structure Kt where
  nx : En → Prop
  rt : Bool → D → En → Prop
  xc : XP
  bk : En → Prop
  ct : En → Prop
def SOut.W (o : SOut) (k : Kt) : Prop := match o with
  | .nx ρ => k.nx ρ
  | .rt fr d ρ => k.rt fr d ρ
  | .bk ρ => k.bk ρ
  | .ct ρ => k.ct ρ
  | .exc n ks ds ρ => k.xc n ks ds ρ
  | .no => False
def FOut.W (o : FOut) (X : XP) (Q : Bool → D → En → Prop) : Prop := match o with
  | .ret fr d as => Q fr d as
  | .exc n ks ds as => X n ks ds as
  | .no => False
def OpW {α : Type} (o : Option α) (ρ : En) (Q : α → En → Prop) : Prop := match o with
  | some a => Q a ρ
  | none => False
def OpE (o : Option En) (Q : En → Prop) : Prop := match o with
  | some ρ => Q ρ
  | none => False
/-- both ways, not looked into -/
def IfO {α : Type} (b : Prop) (f g : En → Out α) (ρ : En) (X : XP) (Q : α → En → Prop) : Prop := (b → (f ρ).W X Q) ∧ (¬ b → (g ρ).W X Q)
def IfG (b : Prop) (f g : En → SOut) (ρ : En) (k : Kt) : Prop := (b → (f ρ).W k) ∧ (¬ b → (g ρ).W k)
def AnE (b : Prop) (ρ : En) (Q : En → Prop) : Prop := b ∧ Q ρ
def AnD {α : Type} (b : Prop) (a : α) (ρ : En) (Q : α → En → Prop) : Prop := b ∧ Q a ρ
section
variable {α β : Type} {X : XP} {ρ : En} {k : Kt} {a : α} {Q : α → En → Prop}
theorem w_ok : (Out.ok a ρ).W X Q = Q a ρ := rfl
theorem w_exc {n : Str} {ks : List Str} {ds : List D} : (Out.exc n ks ds ρ : Out α).W X Q = X n ks ds ρ := rfl
theorem w_nx : (SOut.nx ρ).W k = k.nx ρ := rfl
theorem w_rt {fr : Bool} {d : D} : (SOut.rt fr d ρ).W k = k.rt fr d ρ := rfl
theorem w_bk : (SOut.bk ρ).W k = k.bk ρ := rfl
theorem w_ct : (SOut.ct ρ).W k = k.ct ρ := rfl
theorem w_sxc {n : Str} {ks : List Str} {ds : List D} : (SOut.exc n ks ds ρ).W k = k.xc n ks ds ρ := rfl
theorem w_ret {fr : Bool} {d : D} {Q : Bool → D → En → Prop} : (FOut.ret fr d ρ).W X Q = Q fr d ρ := rfl
theorem w_fxc {n : Str} {ks : List Str} {ds : List D} {Q : Bool → D → En → Prop} : (FOut.exc n ks ds ρ).W X Q = X n ks ds ρ := rfl
theorem w_some : OpW (some a) ρ Q = Q a ρ := rfl
theorem w_someE {Q : En → Prop} : OpE (some ρ) Q = Q ρ := rfl
theorem w_ifT {f g : En → Out α} : IfO True f g ρ X Q = (f ρ).W X Q := by simp [IfO]
theorem w_ifF {f g : En → Out α} : IfO False f g ρ X Q = (g ρ).W X Q := by simp [IfO]
theorem w_igT {f g : En → SOut} : IfG True f g ρ k = (f ρ).W k := by simp [IfG]
theorem w_igF {f g : En → SOut} : IfG False f g ρ k = (g ρ).W k := by simp [IfG]
theorem w_anT {Q : En → Prop} : AnE True ρ Q = Q ρ := by simp [AnE]
theorem w_adT : AnD True a ρ Q = Q a ρ := by simp [AnD]
theorem Out.W_bind {o : Out α} {f : α → En → Out β} {Q : β → En → Prop} : (o.bind f).W X Q = o.W X (fun a ρ => (f a ρ).W X Q) := by cases o <;> rfl
theorem w_lift {o : Option α} : (lift o ρ).W X Q = OpW o ρ Q := by cases o <;> rfl
theorem w_toS {o : Out α} {f : α → En → SOut} : (toS o f).W k = o.W k.xc (fun a ρ => (f a ρ).W k) := by cases o <;> rfl
theorem iteO {b : Prop} [Decidable b] {f g : En → Out α} : (if b then f ρ else g ρ).W X Q = IfO b f g ρ X Q := by by_cases h : b <;> simp [h, IfO]
theorem iteG {b : Prop} [Decidable b] {f g : En → SOut} : (if b then f ρ else g ρ).W k = IfG b f g ρ k := by by_cases h : b <;> simp [h, IfG]
theorem iteA {b : Prop} [Decidable b] : (if b then Out.ok a ρ else .no).W X Q = AnD b a ρ Q := by by_cases h : b <;> simp [h, AnD, Out.W]
/-! ### expressions -/
def varW (s : Option SV) (i : Nat) (ρ : En) (Q : D → En → Prop) : Prop := match s with
  | some (.val d) => Q d ρ
  | some (.own d) => Q d (ρ.set i (.val d))
  | _ => False
theorem w_varv {d : D} {i : Nat} {Q : D → En → Prop} : varW (some (.val d)) i ρ Q = Q d ρ := rfl
theorem w_varo {d : D} {i : Nat} {Q : D → En → Prop} : varW (some (.own d)) i ρ Q = Q d (ρ.set i (.val d)) := rfl
theorem w_var {i : Nat} {Q : D → En → Prop} : (var i ρ).W X Q = varW ρ[i]? i ρ Q := by
  unfold var varW
  cases ρ[i]? with
  | none => rfl
  | some x => cases x <;> rfl
theorem w_con {d : D} {Q : D → En → Prop} : (con d ρ).W X Q = Q d ρ := rfl
def kSlt (i : Nat) (Q : Opnd → En → Prop) : D → En → Prop := fun _ ρ => Q (.s i) ρ
theorem w_kSlt {i : Nat} {d : D} {Q : Opnd → En → Prop} : kSlt i Q d ρ = Q (.s i) ρ := rfl
theorem w_slt {i : Nat} {Q : Opnd → En → Prop} : (slt i ρ).W X Q = OpW (cont ρ[i]?) ρ (kSlt i Q) := by
  unfold slt
  cases cont ρ[i]? <;> rfl
def kOpv (Q : Opnd → En → Prop) : D → En → Prop := fun d ρ => Q (.v d) ρ
theorem w_kOpv {d : D} {Q : Opnd → En → Prop} : kOpv Q d ρ = Q (.v d) ρ := rfl
theorem w_opv {f : En → Out D} {Q : Opnd → En → Prop} : (opv f ρ).W X Q = (f ρ).W X (kOpv Q) := by
  unfold opv
  rw [Out.W_bind]; rfl
def kBin1 (X : XP) (g : D → D → Option D) (fb : En → Out Opnd) (Q : D → En → Prop) : Opnd → En → Prop := fun a ρ1 => (fb ρ1).W X (fun b ρ2 => OpW ((deref ρ2 a).bind fun x => (deref ρ2 b).bind fun y => g x y) ρ2 Q)
def kBin2 (g : D → D → Option D) (a : Opnd) (Q : D → En → Prop) : Opnd → En → Prop := fun b ρ2 => OpW ((deref ρ2 a).bind fun x => (deref ρ2 b).bind fun y => g x y) ρ2 Q
theorem w_kBin1 {g : D → D → Option D} {fb : En → Out Opnd} {a : Opnd} {Q : D → En → Prop} : kBin1 X g fb Q a ρ = (fb ρ).W X (kBin2 g a Q) := rfl
theorem w_kBin2 {g : D → D → Option D} {a b : Opnd} {Q : D → En → Prop} : kBin2 g a Q b ρ = OpW ((deref ρ a).bind fun x => (deref ρ b).bind fun y => g x y) ρ Q := rfl
theorem w_bin {g : D → D → Option D} {fa fb : En → Out Opnd} {Q : D → En → Prop} : (bin g fa fb ρ).W X Q = (fa ρ).W X (kBin1 X g fb Q) := by
  unfold bin
  rw [Out.W_bind]
  unfold kBin1
  congr 1; funext a ρ1
  rw [Out.W_bind]
  congr 1; funext b ρ2
  rw [w_lift]
def chn2 (g' : D → D → Option D) (b : Opnd) (fc : En → Out Opnd) : En → Out D := fun ρ => (fc ρ).bind fun e ρ4 => lift ((deref ρ4 b).bind fun x => (deref ρ4 e).bind fun y => g' x y) ρ4
def kChnB (X : XP) (g' : D → D → Option D) (b : Opnd) (fc : En → Out Opnd) (Q : D → En → Prop) : Bool → En → Prop := fun k ρ => IfO (k = true) (chn2 g' b fc) (con (.bl false)) ρ X Q
def kChnA (X : XP) (g g' : D → D → Option D) (a : Opnd) (fc : En → Out Opnd) (Q : D → En → Prop) : Opnd → En → Prop := fun b ρ2 => OpW (((deref ρ2 a).bind fun x => (deref ρ2 b).bind fun y => g x y).bind asB) ρ2 (kChnB X g' b fc Q)
def kChn (X : XP) (g g' : D → D → Option D) (fb fc : En → Out Opnd) (Q : D → En → Prop) : Opnd → En → Prop := fun a ρ1 => (fb ρ1).W X (kChnA X g g' a fc Q)
theorem w_kChn {g g' : D → D → Option D} {fb fc : En → Out Opnd} {a : Opnd} {Q : D → En → Prop} : kChn X g g' fb fc Q a ρ = (fb ρ).W X (kChnA X g g' a fc Q) := rfl
theorem w_kChnA {g g' : D → D → Option D} {fc : En → Out Opnd} {a b : Opnd} {Q : D → En → Prop} : kChnA X g g' a fc Q b ρ = OpW (((deref ρ a).bind fun x => (deref ρ b).bind fun y => g x y).bind asB) ρ (kChnB X g' b fc Q) := rfl
theorem w_kChnB {g' : D → D → Option D} {fc : En → Out Opnd} {b : Opnd} {t : Bool} {Q : D → En → Prop} : kChnB X g' b fc Q t ρ = IfO (t = true) (chn2 g' b fc) (con (.bl false)) ρ X Q := rfl
theorem w_chn2 {g' : D → D → Option D} {fc : En → Out Opnd} {b : Opnd} {Q : D → En → Prop} : (chn2 g' b fc ρ).W X Q = (fc ρ).W X (kBin2 g' b Q) := by
  unfold chn2 kBin2
  rw [Out.W_bind]
  congr 1; funext e ρ4
  rw [w_lift]
theorem w_chn {g g' : D → D → Option D} {fa fb fc : En → Out Opnd} {Q : D → En → Prop} : (chn g g' fa fb fc ρ).W X Q = (fa ρ).W X (kChn X g g' fb fc Q) := by
  unfold chn
  rw [Out.W_bind]
  unfold kChn
  congr 1; funext a ρ1
  rw [Out.W_bind]
  unfold kChnA
  congr 1; funext b ρ2
  rw [Out.W_bind, w_lift]
  cases ((deref ρ2 a).bind fun x => (deref ρ2 b).bind fun y => g x y) with
  | none => rfl
  | some z =>
    show Out.W (Out.bind _ _) X Q = OpW (asB z) ρ2 _
    rw [Out.W_bind, w_lift]
    congr 1; funext t ρ3
    exact iteO (f := chn2 g' b fc) (g := con (.bl false))
def kTst (Q : Bool → En → Prop) : D → En → Prop := fun d ρ => OpW (asB d) ρ Q
theorem w_kTst {d : D} {Q : Bool → En → Prop} : kTst Q d ρ = OpW (asB d) ρ Q := rfl
theorem w_tst {f : En → Out D} {Q : Bool → En → Prop} : (tst f ρ).W X Q = (f ρ).W X (kTst Q) := by
  unfold tst
  rw [Out.W_bind]
  congr 1; funext d ρ1
  rw [w_lift]; rfl
def kIfO (X : XP) (f g : En → Out α) (Q : α → En → Prop) : Bool → En → Prop := fun b ρ => IfO (b = true) f g ρ X Q
theorem w_kIfO {f g : En → Out α} {b : Bool} : kIfO X f g Q b ρ = IfO (b = true) f g ρ X Q := rfl
theorem w_andS {fa fb : En → Out D} {Q : D → En → Prop} : (andS fa fb ρ).W X Q = (fa ρ).W X (kTst (kIfO X fb (con (.bl false)) Q)) := by
  unfold andS
  rw [Out.W_bind]
  congr 1; funext d ρ1
  rw [Out.W_bind, w_lift]
  show _ = OpW (asB d) ρ1 _
  congr 1; funext b ρ2
  exact iteO (f := fb) (g := con (.bl false))
theorem w_orS {fa fb : En → Out D} {Q : D → En → Prop} : (orS fa fb ρ).W X Q = (fa ρ).W X (kTst (kIfO X (con (.bl true)) fb Q)) := by
  unfold orS
  rw [Out.W_bind]
  congr 1; funext d ρ1
  rw [Out.W_bind, w_lift]
  show _ = OpW (asB d) ρ1 _
  congr 1; funext b ρ2
  exact iteO (f := con (.bl true)) (g := fb)
def kNotD (Q : D → En → Prop) : Bool → En → Prop := fun b ρ => Q (.bl (!b)) ρ
theorem w_kNotD {b : Bool} {Q : D → En → Prop} : kNotD Q b ρ = Q (.bl (!b)) ρ := rfl
theorem w_notS {fa : En → Out D} {Q : D → En → Prop} : (notS fa ρ).W X Q = (fa ρ).W X (kTst (kNotD Q)) := by
  unfold notS
  rw [Out.W_bind]
  congr 1; funext d ρ1
  rw [Out.W_bind, w_lift]
  rfl
def okB (b : Bool) : En → Out Bool := fun ρ => .ok b ρ
theorem w_okB {b : Bool} {Q : Bool → En → Prop} : (okB b ρ).W X Q = Q b ρ := rfl
theorem w_andT {fa fb : En → Out Bool} {Q : Bool → En → Prop} : (andT fa fb ρ).W X Q = (fa ρ).W X (kIfO X fb (okB false) Q) := by
  unfold andT
  rw [Out.W_bind]
  congr 1; funext b ρ1
  exact iteO (f := fb) (g := okB false)
theorem w_orT {fa fb : En → Out Bool} {Q : Bool → En → Prop} : (orT fa fb ρ).W X Q = (fa ρ).W X (kIfO X (okB true) fb Q) := by
  unfold orT
  rw [Out.W_bind]
  congr 1; funext b ρ1
  exact iteO (f := okB true) (g := fb)
def kNotB (Q : Bool → En → Prop) : Bool → En → Prop := fun b ρ => Q (!b) ρ
theorem w_kNotB {b : Bool} {Q : Bool → En → Prop} : kNotB Q b ρ = Q (!b) ρ := rfl
theorem w_notT {fa : En → Out Bool} {Q : Bool → En → Prop} : (notT fa ρ).W X Q = (fa ρ).W X (kNotB Q) := by
  unfold notT
  rw [Out.W_bind]
  rfl
theorem w_ifS {ft : En → Out Bool} {fa fb : En → Out D} {Q : D → En → Prop} : (ifS ft fa fb ρ).W X Q = (ft ρ).W X (kIfO X fa fb Q) := by
  unfold ifS
  rw [Out.W_bind]
  congr 1; funext b ρ1
  exact iteO (f := fa) (g := fb)
def kUn (g : D → Option D) (Q : D → En → Prop) : Opnd → En → Prop := fun o ρ => OpW ((deref ρ o).bind g) ρ Q
theorem w_kUn {g : D → Option D} {o : Opnd} {Q : D → En → Prop} : kUn g Q o ρ = OpW ((deref ρ o).bind g) ρ Q := rfl
theorem w_un {g : D → Option D} {fo : En → Out Opnd} {Q : D → En → Prop} : (un g fo ρ).W X Q = (fo ρ).W X (kUn g Q) := by
  unfold un
  rw [Out.W_bind]
  congr 1; funext o ρ1
  rw [w_lift]; rfl
theorem w_nilS {Q : List α → En → Prop} : (nilS ρ).W X Q = Q [] ρ := rfl
def kCons1 (X : XP) (g : En → Out (List α)) (Q : List α → En → Prop) : α → En → Prop := fun d ρ1 => (g ρ1).W X (fun ds ρ2 => Q (d :: ds) ρ2)
def kCons2 (d : α) (Q : List α → En → Prop) : List α → En → Prop := fun ds ρ2 => Q (d :: ds) ρ2
theorem w_kCons1 {g : En → Out (List α)} {Q : List α → En → Prop} : kCons1 X g Q a ρ = (g ρ).W X (kCons2 a Q) := rfl
theorem w_kCons2 {as : List α} {Q : List α → En → Prop} : kCons2 a Q as ρ = Q (a :: as) ρ := rfl
theorem w_consS {f : En → Out α} {g : En → Out (List α)} {Q : List α → En → Prop} : (consS f g ρ).W X Q = (f ρ).W X (kCons1 X g Q) := by
  unfold consS kCons1
  rw [Out.W_bind]
  congr 1; funext d ρ1
  rw [Out.W_bind]; rfl
def kTup (Q : D → En → Prop) : List D → En → Prop := fun ds ρ1 => AnD (ds.length ≤ 4096) (D.tup ds) ρ1 Q
def kLst (Q : D → En → Prop) : List D → En → Prop := fun ds ρ1 => AnD (ds.length ≤ 4096) (D.lst ds) ρ1 Q
theorem w_kTup {ds : List D} {Q : D → En → Prop} : kTup Q ds ρ = AnD (ds.length ≤ 4096) (D.tup ds) ρ Q := rfl
theorem w_kLst {ds : List D} {Q : D → En → Prop} : kLst Q ds ρ = AnD (ds.length ≤ 4096) (D.lst ds) ρ Q := rfl
theorem w_tupS {g : En → Out (List D)} {Q : D → En → Prop} : (tupS g ρ).W X Q = (g ρ).W X (kTup Q) := by
  unfold tupS
  rw [Out.W_bind]
  congr 1; funext ds ρ1
  exact iteA
theorem w_lstS {g : En → Out (List D)} {Q : D → En → Prop} : (lstS g ρ).W X Q = (g ρ).W X (kLst Q) := by
  unfold lstS
  rw [Out.W_bind]
  congr 1; funext ds ρ1
  exact iteA
def kCal (g : List D → Option D) (Q : D → En → Prop) : List Opnd → En → Prop := fun os ρ1 => OpW ((derefs ρ1 os).bind g) ρ1 Q
theorem w_kCal {g : List D → Option D} {os : List Opnd} {Q : D → En → Prop} : kCal g Q os ρ = OpW ((derefs ρ os).bind g) ρ Q := rfl
theorem w_cal {g : List D → Option D} {fs : En → Out (List Opnd)} {Q : D → En → Prop} : (cal g fs ρ).W X Q = (fs ρ).W X (kCal g Q) := by
  unfold cal
  rw [Out.W_bind]
  congr 1; funext os ρ1
  rw [w_lift]; rfl
def kBm2 (g : D → List D → Option D) (o : Opnd) (Q : D → En → Prop) : List Opnd → En → Prop := fun os ρ2 => OpW ((deref ρ2 o).bind fun a => (derefs ρ2 os).bind fun ds => g a ds) ρ2 Q
def kBm3 (X : XP) (g : D → List D → Option D) (fs : En → Out (List Opnd)) (o : Opnd) (Q : D → En → Prop) : En → Prop := fun ρ => (fs ρ).W X (kBm2 g o Q)
def kBm1 (X : XP) (T : String) (g : D → List D → Option D) (fs : En → Out (List Opnd)) (Q : D → En → Prop) : Opnd → En → Prop := fun o ρ => AnE ((deref ρ o).any (tyOk T) = true) ρ (kBm3 X g fs o Q)
theorem w_kBm1 {T : String} {g : D → List D → Option D} {fs : En → Out (List Opnd)} {o : Opnd} {Q : D → En → Prop} : kBm1 X T g fs Q o ρ = AnE ((deref ρ o).any (tyOk T) = true) ρ (kBm3 X g fs o Q) := rfl
theorem w_kBm3 {g : D → List D → Option D} {fs : En → Out (List Opnd)} {o : Opnd} {Q : D → En → Prop} : kBm3 X g fs o Q ρ = (fs ρ).W X (kBm2 g o Q) := rfl
theorem w_kBm2 {g : D → List D → Option D} {o : Opnd} {os : List Opnd} {Q : D → En → Prop} : kBm2 g o Q os ρ = OpW ((deref ρ o).bind fun a => (derefs ρ os).bind fun ds => g a ds) ρ Q := rfl
theorem w_bm {T : String} {g : D → List D → Option D} {fo : En → Out Opnd} {fs : En → Out (List Opnd)} {Q : D → En → Prop} : (bm T g fo fs ρ).W X Q = (fo ρ).W X (kBm1 X T g fs Q) := by
  unfold bm
  rw [Out.W_bind]
  congr 1; funext o ρ1
  unfold kBm1 AnE kBm3
  by_cases h : (deref ρ1 o).any (tyOk T) = true
  · simp only [h, if_true, true_and]
    rw [Out.W_bind]
    congr 1; funext os ρ2
    rw [w_lift]; rfl
  · simp [h, Out.W]
def kSl3 (o : Opnd) (lo : Option Int) (Q : D → En → Prop) : Option Int → En → Prop := fun hi ρ => OpW ((deref ρ o).bind fun d => slG d lo hi) ρ Q
def kSl2 (X : XP) (o : Opnd) (fh : En → Out (Option Int)) (Q : D → En → Prop) : Option Int → En → Prop := fun lo ρ => (fh ρ).W X (kSl3 o lo Q)
def kSl1 (X : XP) (fl fh : En → Out (Option Int)) (Q : D → En → Prop) : Opnd → En → Prop := fun o ρ => (fl ρ).W X (kSl2 X o fh Q)
theorem w_kSl3 {o : Opnd} {lo hi : Option Int} {Q : D → En → Prop} : kSl3 o lo Q hi ρ = OpW ((deref ρ o).bind fun d => slG d lo hi) ρ Q := rfl
theorem w_kSl2 {o : Opnd} {lo : Option Int} {fh : En → Out (Option Int)} {Q : D → En → Prop} : kSl2 X o fh Q lo ρ = (fh ρ).W X (kSl3 o lo Q) := rfl
theorem w_kSl1 {o : Opnd} {fl fh : En → Out (Option Int)} {Q : D → En → Prop} : kSl1 X fl fh Q o ρ = (fl ρ).W X (kSl2 X o fh Q) := rfl
theorem w_slS {fo : En → Out Opnd} {fl fh : En → Out (Option Int)} {Q : D → En → Prop} : (slS fo fl fh ρ).W X Q = (fo ρ).W X (kSl1 X fl fh Q) := by
  unfold slS
  rw [Out.W_bind]
  congr 1; funext o ρ1
  rw [Out.W_bind]
  unfold kSl1
  congr 1; funext lo ρ2
  rw [Out.W_bind]
  unfold kSl2
  congr 1; funext hi ρ3
  rw [w_lift]; rfl
theorem w_noP {Q : Option Int → En → Prop} : (noP ρ).W X Q = Q none ρ := rfl
def kSomeP (Q : Option Int → En → Prop) : D → En → Prop := fun d ρ => OpW ((asI d).map some) ρ Q
theorem w_kSomeP {d : D} {Q : Option Int → En → Prop} : kSomeP Q d ρ = OpW ((asI d).map some) ρ Q := rfl
theorem w_someP {f : En → Out D} {Q : Option Int → En → Prop} : (someP f ρ).W X Q = (f ρ).W X (kSomeP Q) := by
  unfold someP
  rw [Out.W_bind]
  congr 1; funext d ρ1
  rw [w_lift]; rfl
theorem w_dct1c {x : Str} {d : D} {Q : D → En → Prop} : (dct1 x (con d) ρ).W X Q = Q (.dct [.inr x] [d]) ρ := rfl
def txsG (d : D) : Option (List Str) := (sqD d).bind fun ds => (strsD ds).bind fun ys => if ys.length ≤ 4000 then some ys else none
def kTxs (Q : List Str → En → Prop) : D → En → Prop := fun d ρ => OpW (txsG d) ρ Q
theorem w_kTxs {d : D} {Q : List Str → En → Prop} : kTxs Q d ρ = OpW (txsG d) ρ Q := rfl
theorem w_txsS {f : En → Out D} {Q : List Str → En → Prop} : (txsS f ρ).W X Q = (f ρ).W X (kTxs Q) := by
  unfold txsS
  rw [Out.W_bind]
  congr 1; funext d ρ1
  rw [w_lift]; rfl
def kSrt (srt : List Str → List Str) (Q : D → En → Prop) : List Str → En → Prop := fun ys ρ => Q (.lst ((srt ys).map .str)) ρ
theorem w_kSrt {srt : List Str → List Str} {ys : List Str} {Q : D → En → Prop} : kSrt srt Q ys ρ = Q (.lst ((srt ys).map .str)) ρ := rfl
theorem w_sortedSetS {f : En → Out D} {srt : List Str → List Str} {Q : D → En → Prop} : (sortedSetS f srt ρ).W X Q = (txsS f ρ).W X (kSrt srt Q) := by
  unfold sortedSetS
  rw [Out.W_bind]; rfl
def kCnt (cnt : List Str → Nat) (Q : D → En → Prop) : List Str → En → Prop := fun ys ρ => Q (.int (cnt ys : Nat)) ρ
theorem w_kCnt {cnt : List Str → Nat} {ys : List Str} {Q : D → En → Prop} : kCnt cnt Q ys ρ = Q (.int (cnt ys : Nat)) ρ := rfl
theorem w_lenSetS {f : En → Out D} {cnt : List Str → Nat} {Q : D → En → Prop} : (lenSetS f cnt ρ).W X Q = (txsS f ρ).W X (kCnt cnt Q) := by
  unfold lenSetS
  rw [Out.W_bind]; rfl
/-! ### iteration -/
def kOp {γ δ : Type} (g : γ → Option δ) (Q : δ → En → Prop) : γ → En → Prop := fun d ρ => OpW (g d) ρ Q
theorem w_kOp {γ δ : Type} {g : γ → Option δ} {d : γ} {Q : δ → En → Prop} : kOp g Q d ρ = OpW (g d) ρ Q := rfl
theorem w_seqI {f : En → Out D} {Q : List D → En → Prop} : (seqI f ρ).W X Q = (f ρ).W X (kOp sqD Q) := by
  unfold seqI
  rw [Out.W_bind]
  congr 1; funext d ρ1
  cases d <;> rfl
def chrs : D → Option (List D)
  | .str z => some (z.cps.toList.map fun x => D.str ⟨#[x]⟩)
  | _ => none
theorem w_strI {f : En → Out D} {Q : List D → En → Prop} : (strI f ρ).W X Q = (f ρ).W X (kOp chrs Q) := by
  unfold strI
  rw [Out.W_bind]
  congr 1; funext d ρ1
  cases d <;> rfl
theorem w_rngI {g : List D → Option (List D)} {fs : En → Out (List D)} {Q : List D → En → Prop} : (rngI g fs ρ).W X Q = (fs ρ).W X (kOp g Q) := by
  unfold rngI
  rw [Out.W_bind]
  congr 1; funext ds ρ1
  rw [w_lift]; rfl
def numG (d : D) : Option (List D) := (asQ d).map (numbered 0)
theorem w_enumI {f : En → Out D} {Q : List D → En → Prop} : (enumI f ρ).W X Q = (f ρ).W X (kOp numG Q) := by
  unfold enumI
  rw [Out.W_bind]
  congr 1; funext d ρ1
  rw [w_lift]; rfl
def zipD (a b : D) : Option (List D) := match asL a, asL b with
  | some xs, some ys => some (paired xs ys)
  | _, _ => match asT a, asT b with
    | some xs, some ys => some (paired xs ys)
    | _, _ => none
def kZip1 (X : XP) (f2 : En → Out D) (Q : List D → En → Prop) : D → En → Prop := fun a ρ1 => (f2 ρ1).W X (kOp (zipD a) Q)
theorem w_kZip1 {f2 : En → Out D} {a : D} {Q : List D → En → Prop} : kZip1 X f2 Q a ρ = (f2 ρ).W X (kOp (zipD a) Q) := rfl
theorem w_zipI {f f2 : En → Out D} {Q : List D → En → Prop} : (zipI f f2 ρ).W X Q = (f ρ).W X (kZip1 X f2 Q) := by
  unfold zipI
  rw [Out.W_bind]
  congr 1; funext a ρ1
  rw [Out.W_bind]
  congr 1; funext b ρ2
  rw [w_lift]
  rfl
/-! ### statements -/
theorem w_skip : (skip ρ).W k = k.nx ρ := rfl
def Kt.sq (k : Kt) (h : En → SOut) : Kt := ⟨fun ρ1 => (h ρ1).W k, k.rt, k.xc, k.bk, k.ct⟩
theorem sq_nx {h : En → SOut} : (k.sq h).nx ρ = (h ρ).W k := rfl
theorem sq_rt {h : En → SOut} : (k.sq h).rt = k.rt := rfl
theorem sq_xc {h : En → SOut} : (k.sq h).xc = k.xc := rfl
theorem sq_bk {h : En → SOut} : (k.sq h).bk = k.bk := rfl
theorem sq_ct {h : En → SOut} : (k.sq h).ct = k.ct := rfl
theorem w_seqS {g h : En → SOut} : (seqS g h ρ).W k = (g ρ).W (k.sq h) := by
  unfold seqS
  cases g ρ <;> rfl
def kDrop (k : Kt) : D → En → Prop := fun _ ρ => k.nx ρ
theorem w_kDrop {d : D} : kDrop k d ρ = k.nx ρ := rfl
theorem w_dropS {f : En → Out D} : (dropS f ρ).W k = (f ρ).W k.xc (kDrop k) := by
  unfold dropS; rw [w_toS]; rfl
def kRet (k : Kt) (fr : Bool) : D → En → Prop := fun d ρ => k.rt fr d ρ
theorem w_kRet {fr : Bool} {d : D} : kRet k fr d ρ = k.rt fr d ρ := rfl
theorem w_retS {f : En → Out D} : (retS f ρ).W k = (f ρ).W k.xc (kRet k false) := by
  unfold retS; rw [w_toS]; rfl
theorem w_retF {f : En → Out D} : (retF f ρ).W k = (f ρ).W k.xc (kRet k true) := by
  unfold retF; rw [w_toS]; rfl
def kIfG (f g : En → SOut) (k : Kt) : Bool → En → Prop := fun b ρ => IfG (b = true) f g ρ k
theorem w_kIfG {f g : En → SOut} {b : Bool} : kIfG f g k b ρ = IfG (b = true) f g ρ k := rfl
theorem w_ifSt {ft : En → Out Bool} {g h : En → SOut} : (ifSt ft g h ρ).W k = (ft ρ).W k.xc (kIfG g h k) := by
  unfold ifSt; rw [w_toS]
  congr 1; funext b ρ1
  exact iteG
def kAsg (i : Nat) (k : Kt) : D → En → Prop := fun d ρ1 => AnE (canSet ρ1 i = true) (ρ1.set i (.val d)) k.nx
def kOwn (i : Nat) (k : Kt) : D → En → Prop := fun d ρ1 => AnE (canSet ρ1 i = true) (ρ1.set i (.own d)) k.nx
theorem w_kAsg {i : Nat} {d : D} : kAsg i k d ρ = AnE (canSet ρ i = true) (ρ.set i (.val d)) k.nx := rfl
theorem w_kOwn {i : Nat} {d : D} : kOwn i k d ρ = AnE (canSet ρ i = true) (ρ.set i (.own d)) k.nx := rfl
theorem w_asgS {i : Nat} {f : En → Out D} : (asgS i f ρ).W k = (f ρ).W k.xc (kAsg i k) := by
  unfold asgS; rw [w_toS]
  congr 1; funext d ρ1
  by_cases h : canSet ρ1 i = true <;> simp [h, kAsg, AnE, SOut.W]
theorem w_ownS {i : Nat} {f : En → Out D} : (ownS i f ρ).W k = (f ρ).W k.xc (kOwn i k) := by
  unfold ownS; rw [w_toS]
  congr 1; funext d ρ1
  by_cases h : canSet ρ1 i = true <;> simp [h, kOwn, AnE, SOut.W]
def par2 (i j : Nat) (ρ : En) : List D → Option En
  | [a, b] => if canSet ρ i = true ∧ canSet (ρ.set i (.val a)) j = true then some ((ρ.set i (.val a)).set j (.val b)) else none
  | _ => none
def kPar (i j : Nat) (k : Kt) : List D → En → Prop := fun ds ρ => OpE (par2 i j ρ ds) k.nx
theorem w_kPar {i j : Nat} {ds : List D} : kPar i j k ds ρ = OpE (par2 i j ρ ds) k.nx := rfl
theorem w_parS {i j : Nat} {fs : En → Out (List D)} : (parS i j fs ρ).W k = (fs ρ).W k.xc (kPar i j k) := by
  unfold parS; rw [w_toS]
  congr 1; funext ds ρ1
  match ds with
  | [] => rfl
  | [a] => rfl
  | [a, b] =>
    show (if _ then _ else _ : SOut).W k = OpE (if _ then _ else _) k.nx
    split <;> rfl
  | _ :: _ :: _ :: _ => rfl
def modE (i : Nat) (g : D → Option D) (ρ : En) : Option En := (ownAt ρ i).bind fun p => (g p.2).map fun d' => ρ.set i (keepK p.1 d')
theorem w_modS {i : Nat} {g : D → Option D} : (modS i g ρ).W k = OpE (modE i g ρ) k.nx := by
  unfold modS modE
  cases ownAt ρ i with
  | none => rfl
  | some p => obtain ⟨x, d⟩ := p; show (match g d with | some d' => SOut.nx (ρ.set i (keepK x d')) | none => .no).W k = OpE ((g d).map _) _; cases g d <;> rfl
def kApp (i : Nat) (k : Kt) : D → En → Prop := fun y ρ => OpE (modE i (appD y) ρ) k.nx
theorem w_kApp {i : Nat} {y : D} : kApp i k y ρ = OpE (modE i (appD y) ρ) k.nx := rfl
def kApp0 (i : Nat) (f : En → Out D) (k : Kt) : En → Prop := fun ρ => (f ρ).W k.xc (kApp i k)
theorem w_kApp0 {i : Nat} {f : En → Out D} : kApp0 i f k ρ = (f ρ).W k.xc (kApp i k) := rfl
theorem w_appS {i : Nat} {f : En → Out D} : (appS i f ρ).W k = AnE (isL ρ i = true) ρ (kApp0 i f k) := by
  unfold appS AnE kApp0
  by_cases h : isL ρ i = true
  · simp only [h, if_true, true_and]
    rw [w_toS]
    congr 1; funext d ρ1
    rw [w_modS]; rfl
  · simp [h, SOut.W]
def kPut2 (i : Nat) (d : D) (k : Kt) : D → En → Prop := fun y ρ => OpE (modE i (setK y d) ρ) k.nx
theorem w_kPut2 {i : Nat} {y d : D} : kPut2 i d k y ρ = OpE (modE i (setK y d) ρ) k.nx := rfl
def kPut1 (i : Nat) (fk : En → Out D) (d : D) (k : Kt) : En → Prop := fun ρ => (fk ρ).W k.xc (kPut2 i d k)
theorem w_kPut1 {i : Nat} {fk : En → Out D} {d : D} : kPut1 i fk d k ρ = (fk ρ).W k.xc (kPut2 i d k) := rfl
def kPut (i : Nat) (fk : En → Out D) (k : Kt) : D → En → Prop := fun d ρ => AnE (owned ρ[i]? = true) ρ (kPut1 i fk d k)
theorem w_kPut {i : Nat} {fk : En → Out D} {d : D} : kPut i fk k d ρ = AnE (owned ρ[i]? = true) ρ (kPut1 i fk d k) := rfl
theorem w_putS {i : Nat} {fk fv : En → Out D} : (putS i fk fv ρ).W k = (fv ρ).W k.xc (kPut i fk k) := by
  unfold putS
  rw [w_toS]
  congr 1; funext d ρ1
  unfold kPut AnE kPut1
  by_cases h : owned ρ1[i]? = true
  · simp only [h, if_true, true_and]
    rw [w_toS]
    congr 1; funext d ρ1
    rw [w_modS]; rfl
  · simp [h, SOut.W]
def kFld (i : Nat) (cl : List Str) (f : Str) (k : Kt) : D → En → Prop := fun d ρ => OpE (modE i (fldD cl f d) ρ) k.nx
theorem w_kFld {i : Nat} {cl : List Str} {f : Str} {d : D} : kFld i cl f k d ρ = OpE (modE i (fldD cl f d) ρ) k.nx := rfl
theorem w_fldS {i : Nat} {cl : List Str} {f : Str} {fv : En → Out D} : (fldS i cl f fv ρ).W k = (fv ρ).W k.xc (kFld i cl f k) := by
  unfold fldS
  rw [w_toS]
  congr 1; funext d ρ1
  rw [w_modS]; rfl
def kSet (g : D → En → Option En) (k : Kt) : D → En → Prop := fun d ρ => OpE (g d ρ) k.nx
theorem w_kSet {g : D → En → Option En} {d : D} : kSet g k d ρ = OpE (g d ρ) k.nx := rfl
theorem w_setS {g : D → En → Option En} {f : En → Out D} : (setS g f ρ).W k = (f ρ).W k.xc (kSet g k) := by
  unfold setS
  rw [w_toS]
  congr 1; funext d ρ1
  unfold kSet
  cases g d ρ1 <;> rfl
def kRaise (n : Str) (ks : List Str) (k : Kt) : List D → En → Prop := fun ds ρ => ds.length = ks.length ∧ k.xc n ks ds ρ
theorem w_kRaise {n : Str} {ks : List Str} {ds : List D} : kRaise n ks k ds ρ = (ds.length = ks.length ∧ k.xc n ks ds ρ) := rfl
theorem w_raiseS {n : Str} {ks : List Str} {fs : En → Out (List D)} : (raiseS n ks fs ρ).W k = (fs ρ).W k.xc (kRaise n ks k) := by
  unfold raiseS
  rw [w_toS]
  congr 1; funext ds ρ1
  unfold kRaise
  by_cases h : ds.length = ks.length <;> simp [h, SOut.W]
/-- behind a try that keeps its error -/
def tryX (sub : Str → Bool) (i j : Nat) (k : Kt) : XP := fun m ks ds ρ1 => if sub m = true then i ≠ j ∧ AnE ((canSet ρ1 i && canSet ρ1 j) = true) ((ρ1.set i .un).set j (.val (.exc m ks ds))) k.nx else k.xc m ks ds ρ1
def Kt.tr (k : Kt) (sub : Str → Bool) (i j : Nat) : Kt := ⟨k.nx, k.rt, tryX sub i j k, k.bk, k.ct⟩
theorem tr_nx {sub : Str → Bool} {i j : Nat} : (k.tr sub i j).nx = k.nx := rfl
theorem tr_rt {sub : Str → Bool} {i j : Nat} : (k.tr sub i j).rt = k.rt := rfl
theorem tr_xc {sub : Str → Bool} {i j : Nat} : (k.tr sub i j).xc = tryX sub i j k := rfl
theorem tr_bk {sub : Str → Bool} {i j : Nat} : (k.tr sub i j).bk = k.bk := rfl
theorem tr_ct {sub : Str → Bool} {i j : Nat} : (k.tr sub i j).ct = k.ct := rfl
theorem w_tryX {sub : Str → Bool} {i j : Nat} {m : Str} {ks : List Str} {ds : List D} : tryX sub i j k m ks ds ρ = if sub m = true then i ≠ j ∧ AnE ((canSet ρ i && canSet ρ j) = true) ((ρ.set i .un).set j (.val (.exc m ks ds))) k.nx else k.xc m ks ds ρ := rfl
theorem w_tryK {sub : Str → Bool} {i j : Nat} {b : En → SOut} : (tryK sub i j b ρ).W k = (b ρ).W (k.tr sub i j) := by
  unfold tryK
  cases b ρ with
  | exc m ks ds ρ1 =>
    show (if sub m = true then _ else _ : SOut).W k = tryX sub i j k m ks ds ρ1
    unfold tryX AnE
    by_cases h : sub m = true
    · rw [if_pos h, if_pos h]
      by_cases h2 : canSet ρ1 i = true ∧ canSet ρ1 j = true ∧ i ≠ j
      · rw [if_pos h2]; simp [h2, SOut.W]
      · rw [if_neg h2]; simp only [SOut.W]; simp only [eq_iff_iff, false_iff]; intro z; rw [Bool.and_eq_true] at z; exact h2 ⟨z.2.1.1, z.2.1.2, z.1⟩
    · rw [if_neg h, if_neg h]; rfl
  | _ => rfl
def kFor (g : D → En → Option En) (b : En → SOut) (k : Kt) : List D → En → Prop := fun ds ρ => (forS g b ds ρ).W k
theorem w_kFor {g : D → En → Option En} {b : En → SOut} {ds : List D} : kFor g b k ds ρ = (forS g b ds ρ).W k := rfl
theorem w_forSt {fi : En → Out (List D)} {g : D → En → Option En} {b : En → SOut} : (forSt fi g b ρ).W k = (fi ρ).W k.xc (kFor g b k) := by
  unfold forSt; rw [w_toS]; rfl
def Kt.lp (k : Kt) (g : D → En → Option En) (b : En → SOut) (ds : List D) : Kt := ⟨fun ρ2 => (forS g b ds ρ2).W k, k.rt, k.xc, k.nx, fun ρ2 => (forS g b ds ρ2).W k⟩
theorem lp_nx {g : D → En → Option En} {b : En → SOut} {ds : List D} : (k.lp g b ds).nx ρ = (forS g b ds ρ).W k := rfl
theorem lp_rt {g : D → En → Option En} {b : En → SOut} {ds : List D} : (k.lp g b ds).rt = k.rt := rfl
theorem lp_xc {g : D → En → Option En} {b : En → SOut} {ds : List D} : (k.lp g b ds).xc = k.xc := rfl
theorem lp_bk {g : D → En → Option En} {b : En → SOut} {ds : List D} : (k.lp g b ds).bk = k.nx := rfl
theorem lp_ct {g : D → En → Option En} {b : En → SOut} {ds : List D} : (k.lp g b ds).ct ρ = (forS g b ds ρ).W k := rfl
theorem w_forNil {g : D → En → Option En} {b : En → SOut} : (forS g b [] ρ).W k = k.nx ρ := rfl
def kBd (b : En → SOut) (k : Kt) : En → Prop := fun ρ => (b ρ).W k
theorem w_kBd {b : En → SOut} : kBd b k ρ = (b ρ).W k := rfl
theorem w_forCons {g : D → En → Option En} {b : En → SOut} {d : D} {ds : List D} : (forS g b (d :: ds) ρ).W k = OpE (g d ρ) (kBd b (k.lp g b ds)) := by
  rw [show forS g b (d :: ds) ρ = (match g d ρ with
    | none => .no
    | some ρ1 => match b ρ1 with
      | .nx ρ2 => forS g b ds ρ2
      | .ct ρ2 => forS g b ds ρ2
      | .bk ρ2 => .nx ρ2
      | o => o) from rfl]
  cases g d ρ with
  | none => rfl
  | some ρ1 =>
    show _ = (b ρ1).W _
    dsimp only
    cases b ρ1 <;> rfl
/-- a loop, by what holds ahead of each turn -/
theorem for_ind {g : D → En → Option En} {b : En → SOut} {k : Kt} (I : List D → En → Prop) : ∀ {ds : List D} {ρ : En}, I ds ρ →
    (∀ d ds ρ, I (d :: ds) ρ → OpE (g d ρ) (kBd b ⟨I ds, k.rt, k.xc, k.nx, I ds⟩)) → (∀ ρ, I [] ρ → k.nx ρ) → (forS g b ds ρ).W k
  | [], ρ, h0, _, he => he ρ h0
  | d :: ds, ρ, h0, hs, he => by
    rw [w_forCons]
    have s := hs d ds ρ h0
    cases e : g d ρ with
    | none => rw [e] at s; exact s.elim
    | some ρ1 =>
      rw [e] at s
      show (b ρ1).W _
      have s : (b ρ1).W ⟨I ds, k.rt, k.xc, k.nx, I ds⟩ := s
      cases e2 : b ρ1 with
      | nx ρ2 => rw [e2] at s; exact for_ind I s hs he
      | ct ρ2 => rw [e2] at s; exact for_ind I s hs he
      | bk ρ2 => rw [e2] at s; exact s
      | rt fr d ρ2 => rw [e2] at s; exact s
      | exc n ks ds ρ2 => rw [e2] at s; exact s
      | no => rw [e2] at s; exact s
/-! ### comprehensions -/
def LcW (g : D → En → Option En) (t : En → Out Bool) (e : En → Out D) (vs : List Nat) (ds : List D) (ρ : En) (Q : List D → En → Prop) : Prop := match lcL g t e vs ds ρ with
  | some (ys, ρ2) => Q ys ρ2
  | none => False
def kLcR (vs : List Nat) (ρ1 : En) (Q : D → En → Prop) : List D → En → Prop := fun ys ρ2 => Q (.lst ys) (rest 0 vs ρ1 ρ2)
theorem w_kLcR {vs : List Nat} {ρ1 ρ2 : En} {ys : List D} {Q : D → En → Prop} : kLcR vs ρ1 Q ys ρ2 = Q (.lst ys) (rest 0 vs ρ1 ρ2) := rfl
def kLc (g : D → En → Option En) (t : En → Out Bool) (e : En → Out D) (vs : List Nat) (Q : D → En → Prop) : List D → En → Prop := fun ds ρ1 => (okW 0 vs ρ1 = true ∧ ds.length ≤ 4096) ∧ LcW g t e vs ds (wip 0 vs ρ1) (kLcR vs ρ1 Q)
theorem w_kLc {g : D → En → Option En} {t : En → Out Bool} {e : En → Out D} {vs : List Nat} {ds : List D} {Q : D → En → Prop} : kLc g t e vs Q ds ρ = ((okW 0 vs ρ = true ∧ ds.length ≤ 4096) ∧ LcW g t e vs ds (wip 0 vs ρ) (kLcR vs ρ Q)) := rfl
theorem w_lcS {fi : En → Out (List D)} {g : D → En → Option En} {t : En → Out Bool} {e : En → Out D} {vs : List Nat} {Q : D → En → Prop} : (lcS fi g t e vs ρ).W X Q = (fi ρ).W X (kLc g t e vs Q) := by
  unfold lcS
  rw [Out.W_bind]
  congr 1; funext ds ρ1
  unfold kLc LcW
  by_cases h : okW 0 vs ρ1 = true ∧ ds.length ≤ 4096
  · rw [if_pos h]
    simp only [h, true_and, and_self]
    cases lcL g t e vs ds (wip 0 vs ρ1) with
    | none => rfl
    | some r => rfl
  · rw [if_neg h]; simp only [h, false_and]; rfl
/-- one thing of a comprehension -/
def kOne2 (vs : List Nat) (Q : Option D → En → Prop) : D → En → Prop := fun y ρ => okW 0 vs ρ = true ∧ Q (some y) (wip 0 vs ρ)
def noneS (vs : List Nat) (Q : Option D → En → Prop) : En → Prop := fun ρ => okW 0 vs ρ = true ∧ Q none (wip 0 vs ρ)
def kOne1 (e : En → Out D) (vs : List Nat) (Q : Option D → En → Prop) : Bool → En → Prop := fun b ρ => if b = true then (e ρ).W noX (kOne2 vs Q) else noneS vs Q ρ
def kOne (t : En → Out Bool) (e : En → Out D) (vs : List Nat) (Q : Option D → En → Prop) : En → Prop := fun ρ => (t ρ).W noX (kOne1 e vs Q)
theorem w_kOne2 {vs : List Nat} {y : D} {Q : Option D → En → Prop} : kOne2 vs Q y ρ = (okW 0 vs ρ = true ∧ Q (some y) (wip 0 vs ρ)) := rfl
theorem w_noneS {vs : List Nat} {Q : Option D → En → Prop} : noneS vs Q ρ = (okW 0 vs ρ = true ∧ Q none (wip 0 vs ρ)) := rfl
theorem w_kOne1 {e : En → Out D} {vs : List Nat} {b : Bool} {Q : Option D → En → Prop} : kOne1 e vs Q b ρ = if b = true then (e ρ).W noX (kOne2 vs Q) else noneS vs Q ρ := rfl
theorem w_kOne {t : En → Out Bool} {e : En → Out D} {vs : List Nat} {Q : Option D → En → Prop} : kOne t e vs Q ρ = (t ρ).W noX (kOne1 e vs Q) := rfl
theorem w_yesT {Q : Bool → En → Prop} : (yesT ρ).W X Q = Q true ρ := rfl
theorem lc_cons {g : D → En → Option En} {t : En → Out Bool} {e : En → Out D} {vs : List Nat} {d : D} {ds : List D} {Q : List D → En → Prop} (h : OpE (g d ρ) (kOne t e vs fun o ρ' => LcW g t e vs ds ρ' fun ys => Q (o.toList ++ ys))) : LcW g t e vs (d :: ds) ρ Q := by
  unfold LcW
  unfold lcL
  cases eg : g d ρ with
  | none => rw [eg] at h; exact h.elim
  | some ρ1 =>
    rw [eg] at h
    have h : (t ρ1).W noX _ := h
    dsimp only
    cases et : t ρ1 with
    | exc _ _ _ _ => rw [et] at h; exact h.elim
    | no => rw [et] at h; exact h.elim
    | ok b ρ2 =>
      rw [et] at h
      have h : kOne1 e vs _ b ρ2 := h
      rw [w_kOne1] at h
      cases b with
      | false =>
        obtain ⟨h1, h2⟩ := h
        dsimp only
        rw [if_pos h1]
        exact h2
      | true =>
        have h : (e ρ2).W noX _ := h
        dsimp only
        cases ee : e ρ2 with
        | exc _ _ _ _ => rw [ee] at h; exact h.elim
        | no => rw [ee] at h; exact h.elim
        | ok y ρ3 =>
          rw [ee] at h
          obtain ⟨h1, h2⟩ := h
          dsimp only
          rw [if_pos h1]
          unfold LcW at h2
          cases el : lcL g t e vs ds (wip 0 vs ρ3) with
          | none => rw [el] at h2; exact h2.elim
          | some r => rw [el] at h2; exact h2
theorem lc_ind {g : D → En → Option En} {t : En → Out Bool} {e : En → Out D} {vs : List Nat} {Q : List D → En → Prop} (I : List D → List D → En → Prop) :
    ∀ {ds acc : List D} {ρ : En}, I ds acc ρ → (∀ d ds acc ρ, I (d :: ds) acc ρ → OpE (g d ρ) (kOne t e vs fun o ρ' => I ds (acc ++ o.toList) ρ')) → (∀ acc ρ, I [] acc ρ → Q acc ρ) → LcW g t e vs ds ρ (fun ys => Q (acc ++ ys))
  | [], acc, ρ, h0, _, he => by
    show Q (acc ++ []) ρ
    rw [List.append_nil]
    exact he acc ρ h0
  | d :: ds, acc, ρ, h0, hs, he => by
    refine lc_cons ?_
    have s := hs d ds acc ρ h0
    cases eg : g d ρ with
    | none => rw [eg] at s; exact s.elim
    | some ρ1 =>
      rw [eg] at s
      have s : (t ρ1).W noX _ := s
      show (t ρ1).W noX _
      have fin : ∀ (o : Option D) ρ', I ds (acc ++ o.toList) ρ' → LcW g t e vs ds ρ' fun ys => Q (acc ++ (o.toList ++ ys)) := fun o ρ' z => by
        have := lc_ind (Q := Q) I z hs he
        simpa only [List.append_assoc] using this
      cases et : t ρ1 with
      | exc _ _ _ _ => rw [et] at s; exact s.elim
      | no => rw [et] at s; exact s.elim
      | ok b ρ2 =>
        rw [et] at s
        have s : kOne1 e vs _ b ρ2 := s
        show kOne1 e vs _ b ρ2
        rw [w_kOne1] at s ⊢
        cases b with
        | false => exact ⟨s.1, fin none _ s.2⟩
        | true =>
          have s : (e ρ2).W noX _ := s
          show (e ρ2).W noX _
          cases ee : e ρ2 with
          | exc _ _ _ _ => rw [ee] at s; exact s.elim
          | no => rw [ee] at s; exact s.elim
          | ok y ρ3 =>
            rw [ee] at s
            exact ⟨s.1, fin (some y) _ s.2⟩
theorem lc_ind0 {g : D → En → Option En} {t : En → Out Bool} {e : En → Out D} {vs : List Nat} {Q : List D → En → Prop} (I : List D → List D → En → Prop) {ds : List D} (h0 : I ds [] ρ) (hs : ∀ d ds acc ρ, I (d :: ds) acc ρ → OpE (g d ρ) (kOne t e vs fun o ρ' => I ds (acc ++ o.toList) ρ')) (he : ∀ acc ρ, I [] acc ρ → Q acc ρ) : LcW g t e vs ds ρ Q := lc_ind (Q := Q) I h0 hs he
/-- a comprehension that changes nothing -/
theorem lc_map {α : Type} {g : D → En → Option En} {t : En → Out Bool} {e : En → Out D} {vs : List Nat} {Q : List D → En → Prop} {enc : α → D} (q : α → Bool) (h : α → D) {xs : List α} (hs : ∀ x ∈ xs, OpE (g (enc x) ρ) (kOne t e vs fun o ρ' => o = (if q x = true then some (h x) else none) ∧ ρ' = ρ)) (hq : Q ((xs.filter q).map h) ρ) : LcW g t e vs (xs.map enc) ρ Q := by
  have key := lc_ind0 (ρ := ρ) (g := g) (t := t) (e := e) (vs := vs) (Q := Q) (ds := xs.map enc) (fun ds acc ρ' => ρ' = ρ ∧ ∃ ys zs, xs = ys ++ zs ∧ ds = zs.map enc ∧ acc = (ys.filter q).map h) ⟨rfl, [], xs, rfl, rfl, rfl⟩ (fun d ds acc ρ' => by
    rintro ⟨rfl, ys, zs, e1, e2, e3⟩
    cases zs with
    | nil => cases e2
    | cons z zs =>
      cases e2
      have s := hs z (by rw [e1]; simp)
      cases eg : g (enc z) ρ' with
      | none => rw [eg] at s; exact s.elim
      | some ρ1 =>
        rw [eg] at s
        have s : (t ρ1).W noX _ := s
        show (t ρ1).W noX _
        have fin : ∀ (o : Option D), (o = (if q z = true then some (h z) else none)) → ∃ ys' zs', xs = ys' ++ zs' ∧ zs.map enc = zs'.map enc ∧ acc ++ o.toList = (ys'.filter q).map h := fun o eo => ⟨ys ++ [z], zs, by rw [e1]; simp, rfl, by
          subst e3 eo
          rw [List.filter_append, List.map_append]
          by_cases hz : q z = true <;> simp [hz]⟩
        cases et : t ρ1 with
        | exc _ _ _ _ => rw [et] at s; exact s.elim
        | no => rw [et] at s; exact s.elim
        | ok b ρ2 =>
          rw [et] at s
          have s : kOne1 e vs _ b ρ2 := s
          show kOne1 e vs _ b ρ2
          rw [w_kOne1] at s ⊢
          cases b with
          | false => exact ⟨s.1, s.2.2, fin none s.2.1⟩
          | true =>
            have s : (e ρ2).W noX _ := s
            show (e ρ2).W noX _
            cases ee : e ρ2 with
            | exc _ _ _ _ => rw [ee] at s; exact s.elim
            | no => rw [ee] at s; exact s.elim
            | ok y ρ3 =>
              rw [ee] at s
              exact ⟨s.1, s.2.2, fin (some y) s.2.1⟩) (fun acc ρ' => by
    rintro ⟨rfl, ys, zs, e1, e2, e3⟩
    cases zs with
    | cons _ _ => cases e2
    | nil =>
      rw [List.append_nil] at e1
      subst e1 e3
      exact hq)
  exact key
end
end Kd
/-! ## plain laws: calls -/
namespace Kd
open PySem
section
variable {α β : Type} {X : XP} {ρ : En} {k : Kt} {a : α} {Q : α → En → Prop} {QD : D → En → Prop} {QF : Bool → D → En → Prop} {QA : List Ar → En → Prop}
def kValA (X : XP) (g : En → Out (List Ar)) (Q : List Ar → En → Prop) : D → En → Prop := fun d ρ => (g ρ).W X (kCons2 (.v d) Q)
theorem w_kValA {g : En → Out (List Ar)} {d : D} : kValA X g QA d ρ = (g ρ).W X (kCons2 (.v d) QA) := rfl
theorem w_valA {f : En → Out D} {g : En → Out (List Ar)} : (valA f g ρ).W X QA = (f ρ).W X (kValA X g QA) := by
  unfold valA
  rw [Out.W_bind]
  congr 1; funext d ρ1
  rw [Out.W_bind]; rfl
def kIoA (X : XP) (i : Nat) (g : En → Out (List Ar)) (Q : List Ar → En → Prop) : En → Prop := fun ρ => (g ρ).W X (kCons2 (.io i) Q)
theorem w_kIoA {i : Nat} {g : En → Out (List Ar)} : kIoA X i g QA ρ = (g ρ).W X (kCons2 (.io i) QA) := rfl
theorem w_ioA {i : Nat} {g : En → Out (List Ar)} : (ioA i g ρ).W X QA = AnE (owned ρ[i]? = true) ρ (kIoA X i g QA) := by
  unfold ioA AnE kIoA
  by_cases h : owned ρ[i]? = true
  · simp only [h, if_true, true_and]
    rw [Out.W_bind]; rfl
  · simp [h, Out.W]
def kApp2 (ds : List α) (Q : List α → En → Prop) : List α → En → Prop := fun as ρ => Q (ds ++ as) ρ
theorem w_kApp2 {ds as : List α} {Q : List α → En → Prop} : kApp2 ds Q as ρ = Q (ds ++ as) ρ := rfl
def kStar (X : XP) (g : En → Out (List Ar)) (Q : List Ar → En → Prop) : List D → En → Prop := fun ds ρ => (g ρ).W X (kApp2 (ds.map .v) Q)
theorem w_kStar {g : En → Out (List Ar)} {ds : List D} : kStar X g QA ds ρ = (g ρ).W X (kApp2 (ds.map .v) QA) := rfl
theorem w_starA {f : En → Out D} {g : En → Out (List Ar)} : (starA f g ρ).W X QA = (f ρ).W X (kOp seqD (kStar X g QA)) := by
  unfold starA
  rw [Out.W_bind]
  congr 1; funext d ρ1
  rw [Out.W_bind, w_lift]
  unfold kOp
  congr 1; funext ds ρ2
  rw [Out.W_bind]; rfl
def argE (ρ : En) (ars : List Ar) : Option En := if (ios ars).Nodup then argSVs ρ ars else none
def xCall (X : XP) (ars : List Ar) (ρ : En) : XP := fun n ks ds as' => X n ks ds (upA ρ ars as')
def kCallR (ars : List Ar) (ρ : En) (Q : D → En → Prop) : Bool → D → En → Prop := fun _ d as' => Q d (upA ρ ars as')
def kCallA (X : XP) (Fs : Fn) (ars : List Ar) (Q : D → En → Prop) : En → En → Prop := fun as ρ => (Fs as).W (xCall X ars ρ) (kCallR ars ρ Q)
def kCall (X : XP) (Fs : Fn) (Q : D → En → Prop) : List Ar → En → Prop := fun ars ρ => OpW (argE ρ ars) ρ (kCallA X Fs ars Q)
theorem w_xCall {ars : List Ar} {n : Str} {ks : List Str} {ds : List D} {as' : En} : xCall X ars ρ n ks ds as' = X n ks ds (upA ρ ars as') := rfl
theorem w_kCallR {ars : List Ar} {fr : Bool} {d : D} {as' : En} : kCallR ars ρ QD fr d as' = QD d (upA ρ ars as') := rfl
theorem w_kCallA {Fs : Fn} {ars : List Ar} {as : En} : kCallA X Fs ars QD as ρ = (Fs as).W (xCall X ars ρ) (kCallR ars ρ QD) := rfl
theorem w_kCall {Fs : Fn} {ars : List Ar} : kCall X Fs QD ars ρ = OpW (argE ρ ars) ρ (kCallA X Fs ars QD) := rfl
theorem w_callS {Fs : Fn} {fa : En → Out (List Ar)} : (callS Fs fa ρ).W X QD = (fa ρ).W X (kCall X Fs QD) := by
  unfold callS
  rw [Out.W_bind]
  congr 1; funext ars ρ1
  unfold kCall argE
  by_cases h : (ios ars).Nodup
  · rw [if_pos h, if_pos h]
    cases argSVs ρ1 ars with
    | none => rfl
    | some as =>
      show Out.W _ _ _ = (Fs as).W _ _
      dsimp only
      cases Fs as <;> rfl
  · rw [if_neg h, if_neg h]; rfl
def kCallN (ars : List Ar) (ρ : En) (Q : D → En → Prop) : Bool → D → En → Prop := fun fr d as' => fr = true ∧ Q d (upA ρ ars as')
theorem w_kCallN {ars : List Ar} {fr : Bool} {d : D} {as' : En} : kCallN ars ρ QD fr d as' = (fr = true ∧ QD d (upA ρ ars as')) := rfl
def kCallNA (X : XP) (Fs : Fn) (ars : List Ar) (Q : D → En → Prop) : En → En → Prop := fun as ρ => (Fs as).W (xCall X ars ρ) (kCallN ars ρ Q)
theorem w_kCallNA {Fs : Fn} {ars : List Ar} {as : En} : kCallNA X Fs ars QD as ρ = (Fs as).W (xCall X ars ρ) (kCallN ars ρ QD) := rfl
def kCallN0 (X : XP) (Fs : Fn) (Q : D → En → Prop) : List Ar → En → Prop := fun ars ρ => OpW (argE ρ ars) ρ (kCallNA X Fs ars Q)
theorem w_kCallN0 {Fs : Fn} {ars : List Ar} : kCallN0 X Fs QD ars ρ = OpW (argE ρ ars) ρ (kCallNA X Fs ars QD) := rfl
theorem w_callN {Fs : Fn} {fa : En → Out (List Ar)} : (callN Fs fa ρ).W X QD = (fa ρ).W X (kCallN0 X Fs QD) := by
  unfold callN
  rw [Out.W_bind]
  congr 1; funext ars ρ1
  unfold kCallN0 argE
  by_cases h : (ios ars).Nodup
  · rw [if_pos h, if_pos h]
    cases argSVs ρ1 ars with
    | none => rfl
    | some as =>
      show Out.W _ _ _ = (Fs as).W _ _
      dsimp only
      cases Fs as with
      | ret fr d as' => cases fr <;> simp [FOut.W, kCallN, Out.W]
      | exc _ _ _ _ => rfl
      | no => rfl
  · rw [if_neg h, if_neg h]; rfl
def mkW (d : D) (as : En) (Q : Bool → D → En → Prop) : Prop := match d, as with
  | .non, .io d' :: as' => Q true d' as'
  | _, _ => False
def kMk (Q : Bool → D → En → Prop) : Bool → D → En → Prop := fun _ d as => mkW d as Q
def xMk (X : XP) : XP := fun n ks ds as => match as with
  | _ :: as' => X n ks ds as'
  | [] => False
theorem w_kMk {fr : Bool} {d : D} {as : En} : kMk QF fr .non (.io d :: as) = QF true d as := rfl
theorem w_xMk {n : Str} {ks : List Str} {ds : List D} {a : SV} {as : En} : xMk X n ks ds (a :: as) = X n ks ds as := rfl
def methO (tab : List (Str × Fn)) (m : Str) : Option D → Option Fn
  | some (.ins n ks _) => if m ∈ ks then none else tab.lookup n
  | _ => none
def kMethF (X : XP) (r : Ar) (fa : En → Out (List Ar)) (Q : D → En → Prop) : Fn → En → Prop := fun Fs ρ => (fa ρ).W X (kCons2 r (kCall X Fs Q))
theorem w_kMethF {r : Ar} {fa : En → Out (List Ar)} {Fs : Fn} : kMethF X r fa QD Fs ρ = (fa ρ).W X (kCons2 r (kCall X Fs QD)) := rfl
def kMeth (X : XP) (tab : List (Str × Fn)) (m : Str) (fa : En → Out (List Ar)) (Q : D → En → Prop) : Ar → En → Prop := fun r ρ => OpW (methO tab m ((argSV ρ r).bind svD)) ρ (kMethF X r fa Q)
theorem w_kMeth {tab : List (Str × Fn)} {m : Str} {fa : En → Out (List Ar)} {r : Ar} : kMeth X tab m fa QD r ρ = OpW (methO tab m ((argSV ρ r).bind svD)) ρ (kMethF X r fa QD) := rfl
theorem w_methS {tab : List (Str × Fn)} {m : Str} {fo : En → Out Ar} {fa : En → Out (List Ar)} : (methS tab m fo fa ρ).W X QD = (fo ρ).W X (kMeth X tab m fa QD) := by
  unfold methS
  rw [Out.W_bind]
  congr 1; funext r ρ1
  unfold kMeth methO
  cases (argSV ρ1 r).bind svD with
  | none => rfl
  | some d =>
    cases d with
    | ins n ks ds =>
      dsimp only
      by_cases h : m ∈ ks
      · rw [if_pos h, if_pos h]; rfl
      · rw [if_neg h, if_neg h]
        cases tab.lookup n with
        | none => rfl
        | some Fs =>
          show (callS Fs _ ρ1).W X QD = (fa ρ1).W X _
          rw [w_callS, Out.W_bind]; rfl
    | _ => rfl
def kValR (Q : Ar → En → Prop) : D → En → Prop := fun d ρ => Q (.v d) ρ
theorem w_kValR {d : D} {Q : Ar → En → Prop} : kValR Q d ρ = Q (.v d) ρ := rfl
theorem w_valR {f : En → Out D} {Q : Ar → En → Prop} : (valR f ρ).W X Q = (f ρ).W X (kValR Q) := by
  unfold valR
  rw [Out.W_bind]; rfl
def kIoR (i : Nat) (Q : Ar → En → Prop) : En → Prop := fun ρ => Q (.io i) ρ
theorem w_kIoR {i : Nat} {Q : Ar → En → Prop} : kIoR i Q ρ = Q (.io i) ρ := rfl
theorem w_ioR {i : Nat} {Q : Ar → En → Prop} : (ioR i ρ).W X Q = AnE (owned ρ[i]? = true) ρ (kIoR i Q) := by
  unfold ioR AnE kIoR
  by_cases h : owned ρ[i]? = true
  · simp [h]; rfl
  · simp [h, Out.W]
def kCls (X : XP) (Fs : Fn) (fa : En → Out (List Ar)) (Q : D → En → Prop) : En → Prop := fun ρ => (fa ρ).W X (kCall X Fs Q)
theorem w_kCls {Fs : Fn} {fa : En → Out (List Ar)} : kCls X Fs fa QD ρ = (fa ρ).W X (kCall X Fs QD) := rfl
theorem w_clsS {i : Nat} {n : Str} {Fs : Fn} {fa : En → Out (List Ar)} : (clsS i n Fs fa ρ).W X QD = AnE (ρ[i]? = some (.val (.cls n))) ρ (kCls X Fs fa QD) := by
  unfold clsS AnE kCls
  rw [← w_callS]
  cases ρ[i]? with
  | none => simp [Out.W]
  | some x =>
    cases x with
    | val d =>
      cases d with
      | cls m =>
        dsimp only
        by_cases h : m = n
        · subst h; simp
        · rw [if_neg h]; simp [h, Out.W]
      | _ => simp [Out.W]
    | _ => simp [Out.W]
theorem w_cmS {n : Str} {Fs : Fn} {fa : En → Out (List Ar)} : (cmS n Fs fa ρ).W X QD = (fa ρ).W X (kCons2 (.v (.cls n)) (kCall X Fs QD)) := by
  unfold cmS
  rw [w_callS, Out.W_bind]; rfl
/-! ### functions -/
def kBody (as : En) (X : XP) (Q : Bool → D → En → Prop) : Kt := ⟨fun ρ => Q false .non (mrg as ρ), fun fr d ρ => Q fr d (mrg as ρ), fun n ks ds ρ => X n ks ds (mrg as ρ), fun _ => False, fun _ => False⟩
variable {as : En}
theorem bd_nx : (kBody as X QF).nx ρ = QF false .non (mrg as ρ) := rfl
theorem bd_rt {fr : Bool} {d : D} : (kBody as X QF).rt fr d ρ = QF fr d (mrg as ρ) := rfl
theorem bd_xc {n : Str} {ks : List Str} {ds : List D} : (kBody as X QF).xc n ks ds ρ = X n ks ds (mrg as ρ) := rfl
theorem w_bodyF {m : Nat} {b : En → SOut} : (bodyF m b as).W X QF = (b (as ++ List.replicate (m - as.length) .un)).W (kBody as X QF) := by
  unfold bodyF
  cases b (as ++ List.replicate (m - as.length) .un) <;> rfl
theorem w_defF {n m : Nat} {b : En → SOut} (h : as.length = n) : (defF n m b as).W X QF = (b (as ++ List.replicate (m - as.length) .un)).W (kBody as X QF) := by
  unfold defF
  rw [if_pos h, w_bodyF]
/-- from what holds behind it to what it is -/
theorem FOut.get {o : FOut} {Q0 : Bool → D → En → Prop} (h : o.W noX Q0) : ∃ fr d as, o = .ret fr d as ∧ Q0 fr d as := by
  cases o with
  | ret fr d as => exact ⟨fr, d, as, rfl, h⟩
  | exc _ _ _ _ => exact h.elim
  | no => exact h.elim
theorem FOut.eqW {o : FOut} {fr : Bool} {d : D} {as : En} (h : o.W noX fun fr' d' as' => fr' = fr ∧ d' = d ∧ as' = as) : o = .ret fr d as := by
  obtain ⟨_, _, _, e, rfl, rfl, rfl⟩ := FOut.get h
  exact e
/-- what is given, not new -/
def Ret1 (P : D → En → Prop) : Bool → D → En → Prop := fun fr d as => fr = false ∧ P d as
theorem FOut.eq {o : FOut} {P : D → En → Prop} (h : o.W noX (Ret1 P)) : ∃ d as, o = .ret false d as ∧ P d as := by
  obtain ⟨fr, d, as, e, rfl, h⟩ := FOut.get h
  exact ⟨d, as, e, h⟩
/-! ### what is heard -/
def kHear (Hf : R0 → Option D) (ρ : En) (Q : D → En → Prop) : D → En → Prop := fun d _ => OpW (Hf (.ok d)) ρ Q
def xHear (Hf : R0 → Option D) (ρ : En) (Q : D → En → Prop) : XP := fun n ks ds _ => OpW (Hf (.exc n ks ds)) ρ Q
theorem w_kHear {Hf : R0 → Option D} {d : D} {ρ1 : En} : kHear Hf ρ QD d ρ1 = OpW (Hf (.ok d)) ρ QD := rfl
theorem w_xHear {Hf : R0 → Option D} {n : Str} {ks : List Str} {ds : List D} {ρ1 : En} : xHear Hf ρ QD n ks ds ρ1 = OpW (Hf (.exc n ks ds)) ρ QD := rfl
theorem w_hearS {Hf : R0 → Option D} {fe : En → Out D} : (hearS Hf fe ρ).W X QD = (fe (ρ.map hideV)).W (xHear Hf ρ QD) (kHear Hf ρ QD) := by
  unfold hearS
  cases fe (ρ.map hideV) with
  | no => rfl
  | ok d ρ1 => show (lift (Hf _) ρ).W X QD = OpW _ ρ QD; rw [w_lift]
  | exc n ks ds ρ1 => show (lift (Hf _) ρ).W X QD = OpW _ ρ QD; rw [w_lift]
def thkR : Option SV → Option (R0)
  | some (.thk r) => some r
  | _ => none
def kThk (X : XP) (Q : D → En → Prop) : R0 → En → Prop := fun r ρ => match r with
  | .ok d => Q d ρ
  | .exc n ks ds => X n ks ds ρ
theorem w_kThkO {d : D} : kThk X QD (.ok d) ρ = QD d ρ := rfl
theorem w_kThkX {n : Str} {ks : List Str} {ds : List D} : kThk X QD (.exc n ks ds) ρ = X n ks ds ρ := rfl
theorem w_thkS {i : Nat} : (thkS i ρ).W X QD = OpW (thkR ρ[i]?) ρ (kThk X QD) := by
  unfold thkS
  cases ρ[i]? with
  | none => rfl
  | some x =>
    cases x with
    | thk r => cases r <;> rfl
    | _ => rfl
/-! ### dict comprehensions -/
def DcW (g : D → En → Option En) (t : En → Out Bool) (fk fv : En → Out D) (vs : List Nat) (ds : List D) (ρ : En) (ks : List L2.Key) (es : List D) (Q : D → En → Prop) : Prop := match dcL g t fk fv vs ds ρ ks es with
  | some (r, ρ2) => Q (.dct r.1 r.2) ρ2
  | none => False
def kDcR (vs : List Nat) (ρ1 : En) (Q : D → En → Prop) : D → En → Prop := fun d ρ2 => Q d (rest 0 vs ρ1 ρ2)
theorem w_kDcR {vs : List Nat} {ρ1 : En} {d : D} : kDcR vs ρ1 QD d ρ = QD d (rest 0 vs ρ1 ρ) := rfl
def kDc (g : D → En → Option En) (t : En → Out Bool) (fk fv : En → Out D) (vs : List Nat) (Q : D → En → Prop) : List D → En → Prop := fun ds ρ1 => (okW 0 vs ρ1 = true ∧ ds.length ≤ 4096) ∧ DcW g t fk fv vs ds (wip 0 vs ρ1) [] [] (kDcR vs ρ1 Q)
theorem w_kDc {g : D → En → Option En} {t : En → Out Bool} {fk fv : En → Out D} {vs : List Nat} {ds : List D} : kDc g t fk fv vs QD ds ρ = ((okW 0 vs ρ = true ∧ ds.length ≤ 4096) ∧ DcW g t fk fv vs ds (wip 0 vs ρ) [] [] (kDcR vs ρ QD)) := rfl
theorem w_dcS {fi : En → Out (List D)} {g : D → En → Option En} {t : En → Out Bool} {fk fv : En → Out D} {vs : List Nat} : (dcS fi g t fk fv vs ρ).W X QD = (fi ρ).W X (kDc g t fk fv vs QD) := by
  unfold dcS
  rw [Out.W_bind]
  congr 1; funext ds ρ1
  unfold kDc DcW
  by_cases h : okW 0 vs ρ1 = true ∧ ds.length ≤ 4096
  · rw [if_pos h]
    simp only [h, true_and, and_self]
    cases dcL g t fk fv vs ds (wip 0 vs ρ1) [] [] with
    | none => rfl
    | some r => rfl
  · rw [if_neg h]; simp only [h, false_and]; rfl
end
/-! ### all of it -/
def wRules := And.intro @w_ok <| And.intro @w_exc <| And.intro @w_nx <| And.intro @w_rt <| And.intro @w_bk <| And.intro @w_ct <| And.intro @w_sxc <| And.intro @w_ret <| And.intro @w_fxc <| And.intro @w_some <| And.intro @w_someE <| And.intro @w_ifT <| And.intro @w_ifF <| And.intro @w_igT <| And.intro @w_igF <| And.intro @w_anT <| And.intro @w_adT <|
  And.intro @w_varv <| And.intro @w_varo <| And.intro @w_var <| And.intro @w_con <| And.intro @w_kSlt <| And.intro @w_slt <| And.intro @w_kOpv <| And.intro @w_opv <| And.intro @w_kBin1 <| And.intro @w_kBin2 <| And.intro @w_bin <| And.intro @w_kChn <| And.intro @w_kChnA <| And.intro @w_kChnB <| And.intro @w_chn2 <| And.intro @w_chn <|
  And.intro @w_kTst <| And.intro @w_tst <| And.intro @w_kIfO <| And.intro @w_andS <| And.intro @w_orS <| And.intro @w_kNotD <| And.intro @w_notS <| And.intro @w_okB <| And.intro @w_andT <| And.intro @w_orT <| And.intro @w_kNotB <| And.intro @w_notT <| And.intro @w_ifS <| And.intro @w_kUn <| And.intro @w_un <|
  And.intro @w_nilS <| And.intro @w_kCons1 <| And.intro @w_kCons2 <| And.intro @w_consS <| And.intro @w_kTup <| And.intro @w_kLst <| And.intro @w_tupS <| And.intro @w_lstS <| And.intro @w_kCal <| And.intro @w_cal <| And.intro @w_kBm1 <| And.intro @w_kBm3 <| And.intro @w_kBm2 <| And.intro @w_bm <|
  And.intro @w_kSl3 <| And.intro @w_kSl2 <| And.intro @w_kSl1 <| And.intro @w_slS <| And.intro @w_noP <| And.intro @w_kSomeP <| And.intro @w_someP <| And.intro @w_dct1c <| And.intro @w_kTxs <| And.intro @w_txsS <| And.intro @w_kSrt <| And.intro @w_sortedSetS <| And.intro @w_kCnt <| And.intro @w_lenSetS <|
  And.intro @w_kOp <| And.intro @w_seqI <| And.intro @w_strI <| And.intro @w_rngI <| And.intro @w_enumI <| And.intro @w_kZip1 <| @w_zipI
def wRules2 := And.intro @w_skip <| And.intro @sq_nx <| And.intro @sq_rt <| And.intro @sq_xc <| And.intro @sq_bk <| And.intro @sq_ct <| And.intro @w_seqS <| And.intro @w_kDrop <| And.intro @w_dropS <| And.intro @w_kRet <| And.intro @w_retS <| And.intro @w_retF <| And.intro @w_kIfG <| And.intro @w_ifSt <| And.intro @w_kAsg <| And.intro @w_kOwn <| And.intro @w_asgS <| And.intro @w_ownS <|
  And.intro @w_kPar <| And.intro @w_parS <| And.intro @w_modS <| And.intro @w_kApp <| And.intro @w_kApp0 <| And.intro @w_appS <| And.intro @w_kPut2 <| And.intro @w_kPut1 <| And.intro @w_kPut <| And.intro @w_putS <| And.intro @w_kFld <| And.intro @w_fldS <| And.intro @w_kSet <| And.intro @w_setS <| And.intro @w_kRaise <| And.intro @w_raiseS <|
  And.intro @tr_nx <| And.intro @tr_rt <| And.intro @tr_xc <| And.intro @tr_bk <| And.intro @tr_ct <| And.intro @w_tryX <| And.intro @w_tryK <| And.intro @w_kFor <| And.intro @w_forSt <| And.intro @lp_nx <| And.intro @lp_rt <| And.intro @lp_xc <| And.intro @lp_bk <| And.intro @lp_ct <| And.intro @w_forNil <| And.intro @w_kBd <|
  And.intro @w_kLcR <| And.intro @w_kLc <| And.intro @w_lcS <| And.intro @w_kOne2 <| And.intro @w_noneS <| And.intro @w_kOne1 <| And.intro @w_kOne <| @w_yesT
def wRules3 := And.intro @w_kValA <| And.intro @w_valA <| And.intro @w_kIoA <| And.intro @w_ioA <| And.intro @w_kApp2 <| And.intro @w_kStar <| And.intro @w_starA <| And.intro @w_xCall <| And.intro @w_kCallR <| And.intro @w_kCallA <| And.intro @w_kCall <| And.intro @w_callS <| And.intro @w_kCallN <| And.intro @w_kCallNA <| And.intro @w_kCallN0 <| And.intro @w_callN <|
  And.intro @w_kMk <| And.intro @w_xMk <| And.intro @w_kMethF <| And.intro @w_kMeth <| And.intro @w_methS <| And.intro @w_kValR <| And.intro @w_valR <| And.intro @w_kIoR <| And.intro @w_ioR <| And.intro @w_kCls <| And.intro @w_clsS <| And.intro @w_cmS <| And.intro @bd_nx <| And.intro @bd_rt <| And.intro @bd_xc <|
  And.intro @w_kHear <| And.intro @w_xHear <| And.intro @w_hearS <| And.intro @w_kThkO <| And.intro @w_kThkX <| And.intro @w_thkS <| And.intro @w_kDcR <| And.intro @w_kDc <| @w_dcS
end Kd
/-! ## plain laws: slots, operations -/
namespace Kd
open PySem
section
variable {a : SV} {ρ : En} {i : Nat} {d e : D} {ds es : List D} {α β : Type}
theorem cs_zero : canSet (a :: ρ) 0 = !isIo (some a) := by simp [canSet]
theorem cs_succ : canSet (a :: ρ) (i + 1) = canSet ρ i := by simp [canSet]
theorem io_un : isIo (some .un) = false := rfl
theorem io_val : isIo (some (.val d)) = false := rfl
theorem io_own : isIo (some (.own d)) = false := rfl
theorem io_io : isIo (some (.io d)) = true := rfl
theorem io_thk {r : R0} : isIo (some (.thk r)) = false := rfl
theorem ow_un : owned (some .un) = false := rfl
theorem ow_val : owned (some (.val d)) = false := rfl
theorem ow_own : owned (some (.own d)) = true := rfl
theorem ow_io : owned (some (.io d)) = true := rfl
theorem ow_thk {r : R0} : owned (some (.thk r)) = false := rfl
theorem ct_val : cont (some (.val d)) = some d := rfl
theorem ct_own : cont (some (.own d)) = some d := rfl
theorem ct_io : cont (some (.io d)) = some d := rfl
theorem dr_v : deref ρ (.v d) = some d := rfl
theorem dr_s : deref ρ (.s i) = cont ρ[i]? := rfl
theorem drs_nil : derefs ρ [] = some [] := rfl
theorem drs_cons {o : Opnd} {os : List Opnd} : derefs ρ (o :: os) = (deref ρ o).bind fun d => (derefs ρ os).bind fun ds => some (d :: ds) := rfl
theorem isL_eq : isL ρ i = (match ρ[i]? with | some (.own (.lst _)) => true | some (.io (.lst _)) => true | _ => false) := rfl
theorem ownAt_eq : ownAt ρ i = (match ρ[i]? with | some (.own d) => some (.own d, d) | some (.io d) => some (.io d, d) | _ => none) := rfl
theorem modE_eq {g : D → Option D} : modE i g ρ = (ownAt ρ i).bind fun p => (g p.2).map fun d' => ρ.set i (keepK p.1 d') := rfl
theorem kp_io {d' : D} : keepK (.io d) d' = .io d' := rfl
theorem kp_own {d' : D} : keepK (.own d) d' = .own d' := rfl
theorem par2_eq : par2 i j ρ [d, e] = (if canSet ρ i = true ∧ canSet (ρ.set i (.val d)) j = true then some ((ρ.set i (.val d)).set j (.val e)) else none) := rfl
theorem appD_eq : appD e (.lst ds) = if ds.length < 4096 then some (.lst (ds ++ [e])) else none := rfl
theorem argE_eq {ars : List Ar} : argE ρ ars = if (ios ars).Nodup then argSVs ρ ars else none := rfl
theorem ios_nil : ios [] = [] := rfl
theorem ios_io {ars : List Ar} : ios (.io i :: ars) = i :: ios ars := rfl
theorem ios_v {ars : List Ar} : ios (.v d :: ars) = ios ars := rfl
theorem asv_nil : argSVs ρ [] = some [] := rfl
theorem asv_v {ars : List Ar} : argSVs ρ (.v d :: ars) = (argSVs ρ ars).bind fun xs => some (.val d :: xs) := rfl
def argIo : Option SV → Option SV
  | some (.own d) => some (.io d)
  | some (.io d) => some (.io d)
  | _ => none
theorem argIo_own : argIo (some (.own d)) = some (.io d) := rfl
theorem argIo_io : argIo (some (.io d)) = some (.io d) := rfl
theorem asv_io {ars : List Ar} : argSVs ρ (.io i :: ars) = (argIo ρ[i]?).bind fun x => (argSVs ρ ars).bind fun xs => some (x :: xs) := rfl
theorem asv_map : ∀ (ds : List D), argSVs ρ (ds.map .v) = some (ds.map .val)
  | [] => rfl
  | d :: ds => by rw [List.map_cons, asv_v, asv_map ds]; rfl
theorem ios_map : ∀ (ds : List D), ios (ds.map .v) = []
  | [] => rfl
  | d :: ds => by rw [List.map_cons, ios_v, ios_map ds]
theorem argSV_v : argSV ρ (.v d) = some (.val d) := rfl
theorem argSV_io' : argSV ρ (.io i) = argIo ρ[i]? := rfl
theorem svD_val : svD (.val d) = some d := rfl
theorem svD_io : svD (.io d) = some d := rfl
theorem up_nil {r : List Ar} : upA ρ r [] = ρ := by cases r with
  | nil => rfl
  | cons a r => cases a <;> rfl
theorem up_nil2 : upA ρ [] ρ' = ρ := by cases ρ' <;> rfl
theorem up_v {r : List Ar} {xs : En} : upA ρ (.v d :: r) (a :: xs) = upA ρ r xs := rfl
theorem up_vs : ∀ {ds : List D} {xs : En}, upA ρ (ds.map .v) xs = ρ
  | [], _ => up_nil2
  | _ :: _, [] => up_nil
  | d :: ds, x :: xs => by rw [List.map_cons, up_v, up_vs]
def upIo (y : Option SV) (i : Nat) (d : D) (ρ : En) : En := match y with
  | some y => ρ.set i (keepK y d)
  | none => ρ
theorem upIo_some : upIo (some a) i d ρ = ρ.set i (keepK a d) := rfl
theorem up_io {r : List Ar} {xs : En} : upA ρ (.io i :: r) (.io d :: xs) = upIo ρ[i]? i d (upA ρ r xs) := by
  show (match ρ[i]?, SV.io d with | some y, .io d => (upA ρ r xs).set i (keepK y d) | _, _ => upA ρ r xs) = _
  cases ρ[i]? <;> rfl
theorem nmG_eq : nmG i d ρ = if canSet ρ i = true then some (ρ.set i (.val d)) else none := rfl
theorem nilG_eq : nilG [] ρ = some ρ := rfl
theorem consG_eq {g : D → En → Option En} {h : List D → En → Option En} : consG g h (d :: ds) ρ = (g d ρ).bind fun ρ1 => h ds ρ1 := rfl
theorem tupG_eq {m : Nat} {g : List D → En → Option En} : tupG m g (.tup ds) ρ = if ds.length = m then g ds ρ else none := rfl
theorem asB_bl {b : Bool} : asB (.bl b) = some b := rfl
theorem asI_int {i : Int} : asI (.int i) = some i := rfl
theorem asL_lst : asL (.lst ds) = some ds := rfl
theorem asT_tup : asT (.tup ds) = some ds := rfl
theorem asT_lst : asT (.lst ds) = none := rfl
theorem asQ_lst : asQ (.lst ds) = some ds := rfl
theorem asQ_tup : asQ (.tup ds) = some ds := rfl
theorem sqD_lst : sqD (.lst ds) = some ds := rfl
theorem sqD_tup : sqD (.tup ds) = some ds := rfl
theorem seqD_lst : seqD (.lst ds) = some ds := rfl
theorem seqD_tup : seqD (.tup ds) = some ds := rfl
theorem zip_ll : zipD (.lst ds) (.lst es) = some (paired ds es) := rfl
theorem zip_tt : zipD (.tup ds) (.tup es) = some (paired ds es) := rfl
theorem numG_eq : numG d = (asQ d).map (numbered 0) := rfl
theorem hv_val : hideV (.val d) = .val d := rfl
theorem hv_un : hideV .un = .un := rfl
theorem hv_own : hideV (.own d) = .un := rfl
theorem hv_io : hideV (.io d) = .un := rfl
theorem hv_thk {r : R0} : hideV (.thk r) = .thk r := rfl
theorem thkR_eq {r : R0} : thkR (some (.thk r)) = some r := rfl
theorem methO_eq {tab : List (Str × Fn)} {m n : Str} {ks : List Str} : methO tab m (some (.ins n ks ds)) = if m ∈ ks then none else tab.lookup n := rfl
theorem mg_nil2 : mrg [] ρ = [] := by cases ρ <;> rfl
theorem mg_nil : mrg ρ [] = ρ := by cases ρ <;> rfl
theorem mg_io {x : SV} {xs : En} : mrg (.io d :: ρ) (x :: xs) = x :: mrg ρ xs := rfl
theorem mg_val {x : SV} {xs : En} : mrg (.val d :: ρ) (x :: xs) = .val d :: mrg ρ xs := rfl
theorem mg_thk {r : R0} {x : SV} {xs : En} : mrg (.thk r :: ρ) (x :: xs) = .thk r :: mrg ρ xs := rfl
/-! comprehension slots -/
theorem okW_nil {k : Nat} {vs : List Nat} : okW k vs [] = true := rfl
theorem okW_cons {k : Nat} {vs : List Nat} : okW k vs (a :: ρ) = ((if k ∈ vs then !owned (some a) else true) && okW (k + 1) vs ρ) := rfl
theorem wip_nil {k : Nat} {vs : List Nat} : wip k vs [] = [] := rfl
theorem wip_cons {k : Nat} {vs : List Nat} : wip k vs (a :: ρ) = (if k ∈ vs then .un else a) :: wip (k + 1) vs ρ := rfl
theorem rest_nil {k : Nat} {vs : List Nat} : rest k vs [] ρ = [] := rfl
theorem rest_cons {k : Nat} {vs : List Nat} {b : SV} {ρ2 : En} : rest k vs (a :: ρ) (b :: ρ2) = (if k ∈ vs then a else b) :: rest (k + 1) vs ρ ρ2 := rfl
/-! operations -/
theorem addG_int {i j : Int} : addG (.int i) (.int j) = some (.int (i + j)) := rfl
theorem iiG_int {g : Int → Int → D} {i j : Int} : iiG g (.int i) (.int j) = some (g i j) := rfl
theorem icG_int {ok : Int → Int → Bool} {g : Int → Int → D} {i j : Int} : icG ok g (.int i) (.int j) = if ok i j = true then some (g i j) else none := rfl
theorem ordG_int {f : Int → Int → Bool} {g : Str → Str → Bool} {i j : Int} : ordG f g (.int i) (.int j) = some (.bl (f i j)) := rfl
theorem ordG_str {f : Int → Int → Bool} {g : Str → Str → Bool} {i j : Str} : ordG f g (.str i) (.str j) = some (.bl (g i j)) := rfl
theorem i2G_int {g : Int → Int → Int} {i j : Int} : i2G g [.int i, .int j] = some (.int (g i j)) := rfl
theorem lenG_lst : lenG [.lst ds] = some (.int (ds.length : Nat)) := rfl
theorem lenG_tup : lenG [.tup ds] = some (.int (ds.length : Nat)) := rfl
theorem lenG_str {z : Str} : lenG [.str z] = if z.length ≤ 1000000 then some (.int z.length) else none := rfl
theorem listG_lst : listG [.lst ds] = some (.lst ds) := rfl
theorem listG_tup : listG [.tup ds] = some (.lst ds) := rfl
theorem tupleG_lst : tupleG [.lst ds] = some (.tup ds) := rfl
theorem tupleG_tup : tupleG [.tup ds] = some (.tup ds) := rfl
theorem int1_int {i : Int} : int1G [.int i] = some (.int i) := rfl
theorem int1_bl {b : Bool} : int1G [.bl b] = some (.int (if b then 1 else 0)) := rfl
theorem str1_str {z : Str} : strG [.str z] = some (.str z) := rfl
theorem revG_lst : revG (.lst ds) = some (.lst ds.reverse) := rfl
theorem negG_int {i : Int} : negG (.int i) = some (.int (-i)) := rfl
theorem ixG_lst {i : Int} : ixG (.lst ds) (.int i) = L2.atI ds i := rfl
theorem ixG_tup {i : Int} : ixG (.tup ds) (.int i) = L2.atI ds i := rfl
theorem inG_lst {neg : Bool} : inG neg d (.lst ds) = inS neg d ds := rfl
theorem inG_tup {neg : Bool} : inG neg d (.tup ds) = inS neg d ds := rfl
theorem inS_strs {neg : Bool} {x : Str} {ws : List Str} : inS neg (.str x) (ws.map .str) = some (.bl (neg != decide (x ∈ ws))) := by
  simp [inS, fV, fVs_strs, Kq.inV_strs]
theorem getF_ins {cl : List Str} {f n : Str} {ks : List Str} : getF cl f (.ins n ks ds) = if n ∈ cl then (ks.zip ds).lookup f else none := rfl
theorem getX_exc {f n : Str} {ks : List Str} : getX f (.exc n ks ds) = (ks.zip ds).lookup f := rfl
theorem fldD_ins {cl : List Str} {f n : Str} {ks : List Str} : fldD cl f e (.ins n ks ds) = if n ∈ cl ∧ ks.length < 900 then some (.ins n (putKD f e ks ds).1 (putKD f e ks ds).2) else none := rfl
theorem bools_mapF {α : Type} {f : α → Bool} (xs : List α) : bools (xs.map fun x => .bl (f x)) = some (xs.map f) := by
  induction xs with
  | nil => rfl
  | cons x xs ih => simp [bools, ih]
theorem allG_mapF {α : Type} {f : α → Bool} {xs : List α} : allG [.lst (xs.map fun x => .bl (f x))] = some (.bl (xs.all f)) := by
  show (bools _).map _ = _
  rw [bools_mapF, Option.map_some, List.all_map]; rfl
/-! == and != -/
theorem eqG_int {i j : Int} {neg : Bool} : eqG neg (.int i) (.int j) = some (.bl (neg != decide (i = j))) := by
  simp [eqG, pyD, PyData.depth, eqP, Kq.nrm]
theorem eqG_str {i j : Str} {neg : Bool} : eqG neg (.str i) (.str j) = some (.bl (neg != decide (i = j))) := by
  simp [eqG, pyD, PyData.depth, eqP, Kq.nrm]
theorem eqG_refl {a : D} {q : PyData} (h : pyD a = some q) (hd : q.depth ≤ 60) : eqG false a a = some (.bl true) := by
  simp [eqG, h, hd, eqP]
/-- != with all scalars -/
def neX (a b : D) : Option D := match a, b with
  | .int i, .int j => some (.bl (!decide (i = j)))
  | .str i, .str j => some (.bl (!decide (i = j)))
  | .bl i, .bl j => some (.bl (!decide (i = j)))
  | a, b => neG a b
theorem neX_link {c : Cn} {K : PySem.W.Frag} : OpL c (fun x y H Q => L2.rNe x y H Q ∨ L2.rNeD K x y H Q) neX := by
  intro F H x y a b d Q hS ra rb e q
  unfold neX at e
  split at e
  · cases ra; cases rb; cases e
    exact .inl ⟨rfl, by
      have := q (.bl (!decide (_ = _))) F H (.refl hS) (.bl _)
      rename_i i j
      rw [show decide (L2.V.int i = L2.V.int j) = decide (i = j) by simp]; exact this⟩
  · cases ra; cases rb; cases e
    exact .inl ⟨rfl, by
      have := q (.bl (!decide (_ = _))) F H (.refl hS) (.bl _)
      rename_i i j
      rw [show decide (L2.V.str i = L2.V.str j) = decide (i = j) by simp]; exact this⟩
  · cases ra; cases rb; cases e
    exact .inl ⟨rfl, by
      have := q (.bl (!decide (_ = _))) F H (.refl hS) (.bl _)
      rename_i i j
      rw [show decide (L2.V.bl i = L2.V.bl j) = decide (i = j) by simp]; exact this⟩
  · exact ne_link F H x y _ _ d Q hS ra rb e q
theorem neX_int {i j : Int} : neX (.int i) (.int j) = some (.bl (!decide (i = j))) := rfl
theorem neX_str {i j : Str} : neX (.str i) (.str j) = some (.bl (!decide (i = j))) := rfl
theorem neX_bl {i j : Bool} : neX (.bl i) (.bl j) = some (.bl (!decide (i = j))) := rfl
theorem neX_lst {ds es : List D} : neX (.lst ds) (.lst es) = neG (.lst ds) (.lst es) := rfl
theorem slG_lst {lo hi : Option Int} : slG (.lst ds) lo hi = some (.lst (cutD ds lo hi)) := by simp [slG]
theorem slG_tup {lo hi : Option Int} : slG (.tup ds) lo hi = some (.tup (cutD ds lo hi)) := by simp [slG]
end
theorem ofS_inj {a b : String} : (Str.ofString a = Str.ofString b) = (a = b) := by
  refine propext ⟨fun h => ?_, fun h => by rw [h]⟩
  rw [Str.ofString_eq_toList, Str.ofString_eq_toList] at h
  have h1 : (a.toList.map Char.toNat).toArray = (b.toList.map Char.toNat).toArray := by injection h
  have h2 : a.toList.map Char.toNat = b.toList.map Char.toNat := by simpa using h1
  have h3 : a.toList = b.toList := (List.map_inj_right (fun x y e => by
    exact Char.ext (UInt32.toNat_inj.mp e))).mp h2
  exact String.toList_inj.mp h3
/-! bundles -/
def wSlots := And.intro @cs_zero <| And.intro @cs_succ <| And.intro @io_un <| And.intro @io_val <| And.intro @io_own <| And.intro @io_io <| And.intro @io_thk <| And.intro @ow_un <| And.intro @ow_val <| And.intro @ow_own <| And.intro @ow_io <| And.intro @ow_thk <| And.intro @ct_val <| And.intro @ct_own <| And.intro @ct_io <| And.intro @dr_v <| And.intro @dr_s <| And.intro @drs_nil <| And.intro @drs_cons <| And.intro @isL_eq <| And.intro @ownAt_eq <| And.intro @modE_eq <| And.intro @kp_io <| And.intro @kp_own <| And.intro @par2_eq <| And.intro @argE_eq <| And.intro @ios_nil <| And.intro @ios_io <| And.intro @ios_v <| And.intro @asv_nil <| And.intro @asv_v <| And.intro @argIo_own <| And.intro @argIo_io <| And.intro @asv_io <| And.intro @asv_map <| And.intro @ios_map <| And.intro @argSV_v <| And.intro @argSV_io' <| And.intro @svD_val <| And.intro @svD_io <| And.intro @up_nil <| And.intro @up_nil2 <| And.intro @up_v <| And.intro @up_vs <| And.intro @upIo_some <| And.intro @up_io <| And.intro @nmG_eq <| And.intro @nilG_eq <| And.intro @consG_eq <| And.intro @tupG_eq <| And.intro @hv_val <| And.intro @hv_un <| And.intro @hv_own <| And.intro @hv_io <| And.intro @hv_thk <| And.intro @thkR_eq <| And.intro @methO_eq <| And.intro @mg_nil2 <| And.intro @mg_nil <| And.intro @mg_io <| And.intro @mg_val <| And.intro @mg_thk <| And.intro @okW_nil <| And.intro @okW_cons <| And.intro @wip_nil <| And.intro @wip_cons <| And.intro @rest_nil <| @rest_cons
def wOps := And.intro @asB_bl <| And.intro @asI_int <| And.intro @asL_lst <| And.intro @asT_tup <| And.intro @asT_lst <| And.intro @asQ_lst <| And.intro @asQ_tup <| And.intro @sqD_lst <| And.intro @sqD_tup <| And.intro @seqD_lst <| And.intro @seqD_tup <| And.intro @zip_ll <| And.intro @zip_tt <| And.intro @numG_eq <| And.intro @appD_eq <| And.intro @addG_int <| And.intro @iiG_int <| And.intro @icG_int <| And.intro @ordG_int <| And.intro @ordG_str <| And.intro @i2G_int <| And.intro @lenG_lst <| And.intro @lenG_tup <| And.intro @lenG_str <| And.intro @listG_lst <| And.intro @listG_tup <| And.intro @tupleG_lst <| And.intro @tupleG_tup <| And.intro @int1_int <| And.intro @int1_bl <| And.intro @str1_str <| And.intro @revG_lst <| And.intro @negG_int <| And.intro @ixG_lst <| And.intro @ixG_tup <| And.intro @inG_lst <| And.intro @inG_tup <| And.intro @inS_strs <| And.intro @getF_ins <| And.intro @getX_exc <| And.intro @fldD_ins <| And.intro @allG_mapF <| And.intro @eqG_int <| And.intro @eqG_str <| And.intro @neX_int <| And.intro @neX_str <| And.intro @neX_bl <| And.intro @slG_lst <| @slG_tup
end Kd
/-! ## plain laws: slices, places -/
namespace Kd
open PySem PyProof.Rows
theorem sIx_pos {n d : Nat} {i : Int} (h : 0 ≤ i) : HT.sIx n d (some i) = min i.toNat n := by
  show (if i < 0 then _ else min i.toNat n) = _
  rw [if_neg (by omega)]
theorem sIx_no {n d : Nat} : HT.sIx n d none = d := rfl
theorem cut_take {ds : List D} {i : Int} (h : 0 ≤ i) : cutD ds none (some i) = ds.take i.toNat := by
  unfold cutD
  rw [sIx_pos h, sIx_no, Nat.sub_zero, List.drop_zero]
  by_cases q : i.toNat ≤ ds.length
  · rw [Nat.min_eq_left q]
  · rw [Nat.min_eq_right (by omega), List.take_of_length_le (by omega), List.take_of_length_le (by omega)]
/-- the numbers of a range -/
theorem rng1_le {j : Int} (hn : -big62 ≤ j ∧ j < big62) : rng1 [.int j] = some (Kd.intsFrom 0 j.toNat) := by
  simp only [rng1, asI, Option.bind_some]
  rw [if_pos hn]
end Kd
/-! ## plain laws: words, groups, what isinstance tells -/
namespace Kd
open PySem PyProof.Rows
def grp (ws : List Str) : D := .ins "Group" ["row"] [.tup (ws.map .str)]
end Kd
/-! ## plain laws: dict comprehensions, orders, repr -/
namespace Kd
open PySem PyProof.Rows
/-- the places of words -/
def places (ws : List Str) : D := .dct (ws.map .inr) ((List.range ws.length).map fun i => D.int (i : Nat))
def ordr (ws : List Str) : D := .ins "Order" ["row", "group", "place_of"] [.tup (ws.map .str), grp (srtU ws), places ws]
/-! ### repr -/
end Kd
/-! ## own special methods -/
namespace Kd
open PySem PySem.Spec PyProof.Rows L2 Kq StX ClX LamX
variable {c : Cn}
def okA (ars : List Ar) : En → Out (List Ar) := fun ρ => .ok ars ρ
section
variable {X : Cx} {W : WX} {k j : Nat} {f : Addr} {Fs : Fn}
/-- a def runs on values, here or one step deeper -/
def RunAll (X : Cx) (f : Value) (σ : L2.St) (vs : List V) (H : Hp) (Q : VK) : Prop := ∀ (A : Around) (pins : List (Addr × Obj)) (s : Shared) (us : List Value), (A = X.A ∨ A = X.A.in1 ∨ A = X.A.in1.in1) → Inv X pins σ H s → Vals vs us → codeAny (model X.prog X.w) A (.call f ⟨us, []⟩) (fun r s' => match r with | .ok (.ret v) => EP X pins σ Q v s' | .ok _ => False | .error e => X.xe e s') s
theorem RunAll.w {X : Cx} {f : Value} {σ : L2.St} {vs : List V} {H : Hp} {Q : VK} (h : RunAll X f σ vs H Q) (A : Around) (pins : List (Addr × Obj)) (s : Shared) (us : List Value) (hA : A = X.A ∨ A = X.A.in1 ∨ A = X.A.in1.in1) (I : Inv X pins σ H s) (r : Vals vs us) : wpAny (model X.prog X.w) A (call f us) (EP X pins σ Q) X.xe s := wpAny_call (h A pins s us hA I r)
end
/-! ### ~ o -/
section
variable {X : Cx} {W : WX} {k j : Nat} {m : Str} {tab : List (Str × Fn)} {a b e : Expr} {pos : Pos} {fa fb : En → Out D} {ta tb : TE}
def own1 (tab : List (Str × Fn)) : D → Option Fn
  | .ins n _ _ => tab.lookup n
  | _ => none
def inv1S (tab : List (Str × Fn)) (fa : En → Out D) : En → Out D := fun ρ => (fa ρ).bind fun x ρ1 => match own1 tab x with
  | some Fs => callS Fs (okA [.v x]) ρ1
  | none => .no
end
end Kd
/-! ## own operators between two things -/
namespace Kd
open PySem PySem.Calls PySem.Spec PyProof.Rows PySem.W
end Kd
namespace Kd
open PySem PySem.Spec PyProof.Rows L2 Kq StX ClX LamX
variable {c : Cn}
section
variable {X : Cx} {W : WX} {k j : Nat} {m : Str} {tab : List (Str × Fn)} {a b e : Expr} {pos : Pos} {fa fb : En → Out Opnd} {ta tb : TE} {pins : List (Addr × Obj)} {σ : L2.St} {F H : Hp} {s : Shared}
def anyD : D → Bool
  | .ty _ => false
  | .cls _ => false
  | .scr _ => false
  | .exc _ _ _ => false
  | _ => true
/-! ### a op b, own on the left -/
def fz (ρ : En) : Opnd → Option D
  | .v d => some d
  | .s i => match ρ[i]? with
    | some (.val d) => some d
    | _ => none
def own2 (tab : List (Str × Fn)) (ρ : En) (a b : Opnd) : Option (Fn × D × D) := (fz ρ a).bind fun x => (own1 tab x).bind fun Fs => (fz ρ b).bind fun y => if anyD y = true then some (Fs, x, y) else none
def bopS (tab : List (Str × Fn)) (g : D → D → Option D) (fa fb : En → Out Opnd) : En → Out D := fun ρ => (fa ρ).bind fun a ρ1 => (fb ρ1).bind fun b ρ2 => match own2 tab ρ2 a b with
  | some (Fs, x, y) => callS Fs (okA [.v x, .v y]) ρ2
  | none => lift ((deref ρ2 a).bind fun x => (deref ρ2 b).bind fun y => g x y) ρ2
end
end Kd
/-! ## own [], (), len, ==, !=, in, str -/
namespace Kd
open PySem PySem.Spec PyProof.Rows L2 Kq StX ClX LamX
variable {c : Cn}
section
variable {X : Cx} {W : WX} {k j : Nat} {m : Str} {tab : List (Str × Fn)} {a b e : Expr} {es : List Expr} {pos np : Pos} {fa fb : En → Out Opnd} {fo : En → Out D} {ta tb te : TE} {t : L2.TA} {pins : List (Addr × Obj)} {σ : L2.St} {F H : Hp} {s : Shared}
/-! ### o[i] -/
def sixS (tab : List (Str × Fn)) (fa fb : En → Out Opnd) : En → Out D := bopS tab ixG fa fb
/-! ### o(e, ..) -/
def callOS (tab : List (Str × Fn)) (fo : En → Out D) (fa : En → Out (List D)) : En → Out D := fun ρ => (fo ρ).bind fun x ρ1 => match own1 tab x with
  | some Fs => (fa ρ1).bind fun ds ρ2 => callS Fs (okA (.v x :: ds.map .v)) ρ2
  | none => .no
/-! ### len(o), str(o) -/
def lenS (tab : List (Str × Fn)) (fa : En → Out Opnd) : En → Out D := fun ρ => (fa ρ).bind fun o ρ1 => match (fz ρ1 o).bind fun x => (own1 tab x).map fun Fs => (Fs, x) with
  | some (Fs, x) => (callS Fs (okA [.v x]) ρ1).bind fun d ρ2 => (match d with
    | .int n => if 0 ≤ n ∧ n < 1000000 then .ok (.int n) ρ2 else .no
    | _ => .no)
  | none => lift ((deref ρ1 o).bind fun x => lenG [x]) ρ1
def strS (tab : List (Str × Fn)) (fa : En → Out Opnd) : En → Out D := fun ρ => (fa ρ).bind fun o ρ1 => match (fz ρ1 o).bind fun x => (own1 tab x).map fun Fs => (Fs, x) with
  | some (Fs, x) => (callS Fs (okA [.v x]) ρ1).bind fun d ρ2 => (match d with
    | .str n => .ok (.str n) ρ2
    | _ => .no)
  | none => lift ((deref ρ1 o).bind fun x => strG [x]) ρ1
/-! ### ==, != with an instance on the left; in with an instance on the right -/
def eqS (neg : Bool) (tab : List (Str × Fn)) (g : D → D → Option D) (fa fb : En → Out Opnd) : En → Out D := fun ρ => (fa ρ).bind fun a ρ1 => (fb ρ1).bind fun b ρ2 => match own2 tab ρ2 a b with
  | some (Fs, x, y) => (callS Fs (okA [.v x, .v y]) ρ2).bind fun d ρ3 => (match d with
    | .bl k => .ok (.bl (neg != k)) ρ3
    | _ => .no)
  | none => lift ((deref ρ2 a).bind fun x => (deref ρ2 b).bind fun y => g x y) ρ2
end
end Kd
/-! ## own ==, !=, in: as values and as tests -/
namespace Kd
open PySem PySem.Spec PyProof.Rows L2 Kq StX ClX LamX
variable {c : Cn}
section
variable {X : Cx} {W : WX} {k j : Nat} {m : Str} {tab : List (Str × Fn)} {a b e : Expr} {es : List Expr} {pos np : Pos} {fa fb : En → Out Opnd} {fo : En → Out D} {ta tb te : TE} {op : CmpOp} {R : L2.St → V → V → Hp → VK → Prop}
/-- x in o, x not in o -/
def inOS (neg : Bool) (tab : List (Str × Fn)) (g : D → D → Option D) (fa fb : En → Out Opnd) : En → Out D := fun ρ => (fa ρ).bind fun a ρ1 => (fb ρ1).bind fun b ρ2 => match own2 tab ρ2 b a with
  | some (Fs, x, y) => (callS Fs (okA [.v x, .v y]) ρ2).bind fun d ρ3 => (match d with
    | .bl k => .ok (.bl (neg != k)) ρ3
    | _ => .no)
  | none => lift ((deref ρ2 a).bind fun x => (deref ρ2 b).bind fun y => g x y) ρ2
end
end Kd
/-! ## d[k], max(xs), min(xs), sorted(ints), xs.index(text); the facts of own special methods -/
namespace Kd
open PySem PySem.Spec PyProof.Rows L2 Kq StX ClX LamX
/-! ### the facts, one check of what is written -/
end Kd
namespace Kd
open PySem PySem.Spec PyProof.Rows L2
end Kd
namespace Kd
open PySem PySem.Spec PyProof.Rows L2
end Kd
/-! ## t[::-1] -/
namespace Kd
open PySem PySem.Calls PySem.Spec PyProof.Rows
end Kd
namespace Kd
open PySem PySem.Spec PyProof.Rows L2 Kq StX ClX LamX
variable {c : Cn}
section
variable {X : Cx} {W : WX} {e : Expr} {te : TE} {k : Nat} {p1 p2 p3 pos : Pos} {fo : En → Out Opnd}
def revX : D → Option D
  | .lst ds => some (.lst ds.reverse)
  | .tup ds => some (.tup ds.reverse)
  | _ => none
theorem revX_lst {ds : List D} : revX (.lst ds) = some (.lst ds.reverse) := rfl
theorem revX_tup {ds : List D} : revX (.tup ds) = some (.tup ds.reverse) := rfl
end
end Kd
/-! ## plain laws: own special methods -/
namespace Kd
open PySem PyProof.Rows
section
variable {X : XP} {ρ : En} {k : Kt} {QD : D → En → Prop} {Fs : Fn} {d e : D} {ds : List D} {tab : List (Str × Fn)}
def xRun (X : XP) (ρ : En) : XP := fun n ks es _ => X n ks es ρ
def kRunR (ρ : En) (Q : D → En → Prop) : Bool → D → En → Prop := fun _ d _ => Q d ρ
def kRun (X : XP) (ds : List D) (Q : D → En → Prop) : Fn → En → Prop := fun Fs ρ => (Fs (ds.map .val)).W (xRun X ρ) (kRunR ρ Q)
theorem w_xRun {n : Str} {ks : List Str} {es : List D} {as : En} : xRun X ρ n ks es as = X n ks es ρ := rfl
theorem w_kRunR {fr : Bool} {as : En} : kRunR ρ QD fr d as = QD d ρ := rfl
theorem w_kRun : kRun X ds QD Fs ρ = (Fs (ds.map .val)).W (xRun X ρ) (kRunR ρ QD) := rfl
theorem run_callS : (callS Fs (okA (ds.map .v)) ρ).W X QD = kRun X ds QD Fs ρ := by
  rw [w_callS]
  show kCall X Fs QD (ds.map .v) ρ = _
  rw [w_kCall, argE_eq, ios_map, if_pos List.nodup_nil, asv_map, w_some, w_kCallA]
  unfold kRun
  congr 1
  · funext n ks es as; show X n ks es (upA ρ _ as) = _; rw [up_vs]; rfl
  · funext fr d as; show QD d (upA ρ _ as) = _; rw [up_vs]; rfl
theorem run1 {x : D} : (callS Fs (okA [.v x]) ρ).W X QD = kRun X [x] QD Fs ρ := run_callS (ds := [x])
theorem run2 {x y : D} : (callS Fs (okA [.v x, .v y]) ρ).W X QD = kRun X [x, y] QD Fs ρ := run_callS (ds := [x, y])
def kInv (X : XP) (tab : List (Str × Fn)) (Q : D → En → Prop) : D → En → Prop := fun d ρ => OpW (own1 tab d) ρ (kRun X [d] Q)
theorem w_kInv : kInv X tab QD d ρ = OpW (own1 tab d) ρ (kRun X [d] QD) := rfl
theorem w_inv1S {fa : En → Out D} : (inv1S tab fa ρ).W X QD = (fa ρ).W X (kInv X tab QD) := by
  unfold inv1S
  rw [Out.W_bind]
  congr 1; funext x ρ1
  unfold kInv
  cases own1 tab x with
  | none => rfl
  | some Fs => exact run1
def bopW (X : XP) (o : Option (Fn × D × D)) (alt : Option D) (ρ : En) (Q : D → En → Prop) (h : D → Option D) : Prop := match o with
  | some (Fs, x, y) => kRun X [x, y] (kOp h Q) Fs ρ
  | none => OpW alt ρ Q
theorem w_bopS {x y : D} {alt : Option D} {h : D → Option D} : bopW X (some (Fs, x, y)) alt ρ QD h = kRun X [x, y] (kOp h QD) Fs ρ := rfl
theorem w_bopN {alt : Option D} {h : D → Option D} : bopW X none alt ρ QD h = OpW alt ρ QD := rfl
def kBop2 (X : XP) (tab : List (Str × Fn)) (g : D → D → Option D) (h : D → Option D) (a : Opnd) (Q : D → En → Prop) : Opnd → En → Prop := fun b ρ => bopW X (own2 tab ρ a b) ((deref ρ a).bind fun x => (deref ρ b).bind fun y => g x y) ρ Q h
def kBop1 (X : XP) (tab : List (Str × Fn)) (g : D → D → Option D) (h : D → Option D) (fb : En → Out Opnd) (Q : D → En → Prop) : Opnd → En → Prop := fun a ρ => (fb ρ).W X (kBop2 X tab g h a Q)
theorem w_kBop1 {g : D → D → Option D} {h : D → Option D} {fb : En → Out Opnd} {a : Opnd} : kBop1 X tab g h fb QD a ρ = (fb ρ).W X (kBop2 X tab g h a QD) := rfl
theorem w_kBop2 {g : D → D → Option D} {h : D → Option D} {a b : Opnd} : kBop2 X tab g h a QD b ρ = bopW X (own2 tab ρ a b) ((deref ρ a).bind fun x => (deref ρ b).bind fun y => g x y) ρ QD h := rfl
theorem kOp_some : kOp (some : D → Option D) QD = QD := rfl
theorem w_bop {g : D → D → Option D} {fa fb : En → Out Opnd} : (bopS tab g fa fb ρ).W X QD = (fa ρ).W X (kBop1 X tab g some fb QD) := by
  unfold bopS
  rw [Out.W_bind]
  congr 1; funext a ρ1
  rw [Out.W_bind]
  unfold kBop1
  congr 1; funext b ρ2
  unfold kBop2
  cases own2 tab ρ2 a b with
  | none => show Out.W _ _ _ = OpW _ _ _; dsimp only; rw [w_lift]
  | some t => obtain ⟨Fs, x, y⟩ := t; exact run2
theorem w_sixS {fa fb : En → Out Opnd} : (sixS tab fa fb ρ).W X QD = (fa ρ).W X (kBop1 X tab ixG some fb QD) := w_bop
def negB (neg : Bool) : D → Option D
  | .bl k => some (.bl (neg != k))
  | _ => none
theorem negB_bl {neg k : Bool} : negB neg (.bl k) = some (.bl (neg != k)) := rfl
theorem w_eqS {neg : Bool} {g : D → D → Option D} {fa fb : En → Out Opnd} : (eqS neg tab g fa fb ρ).W X QD = (fa ρ).W X (kBop1 X tab g (negB neg) fb QD) := by
  unfold eqS
  rw [Out.W_bind]
  congr 1; funext a ρ1
  rw [Out.W_bind]
  unfold kBop1
  congr 1; funext b ρ2
  unfold kBop2
  cases own2 tab ρ2 a b with
  | none => show Out.W _ _ _ = OpW _ _ _; dsimp only; rw [w_lift]
  | some t =>
    obtain ⟨Fs, x, y⟩ := t
    show Out.W (Out.bind _ _) _ _ = _
    rw [Out.W_bind, run2]
    show kRun X [x, y] _ Fs ρ2 = kRun X [x, y] _ Fs ρ2
    congr 1; funext d ρ3
    cases d <;> rfl
def kIn2 (X : XP) (tab : List (Str × Fn)) (g : D → D → Option D) (h : D → Option D) (a : Opnd) (Q : D → En → Prop) : Opnd → En → Prop := fun b ρ => bopW X (own2 tab ρ b a) ((deref ρ a).bind fun x => (deref ρ b).bind fun y => g x y) ρ Q h
def kIn1 (X : XP) (tab : List (Str × Fn)) (g : D → D → Option D) (h : D → Option D) (fb : En → Out Opnd) (Q : D → En → Prop) : Opnd → En → Prop := fun a ρ => (fb ρ).W X (kIn2 X tab g h a Q)
theorem w_kIn1 {g : D → D → Option D} {h : D → Option D} {fb : En → Out Opnd} {a : Opnd} : kIn1 X tab g h fb QD a ρ = (fb ρ).W X (kIn2 X tab g h a QD) := rfl
theorem w_kIn2 {g : D → D → Option D} {h : D → Option D} {a b : Opnd} : kIn2 X tab g h a QD b ρ = bopW X (own2 tab ρ b a) ((deref ρ a).bind fun x => (deref ρ b).bind fun y => g x y) ρ QD h := rfl
theorem w_inOS {neg : Bool} {g : D → D → Option D} {fa fb : En → Out Opnd} : (inOS neg tab g fa fb ρ).W X QD = (fa ρ).W X (kIn1 X tab g (negB neg) fb QD) := by
  unfold inOS
  rw [Out.W_bind]
  congr 1; funext a ρ1
  rw [Out.W_bind]
  unfold kIn1
  congr 1; funext b ρ2
  unfold kIn2
  cases own2 tab ρ2 b a with
  | none => show Out.W _ _ _ = OpW _ _ _; dsimp only; rw [w_lift]
  | some t =>
    obtain ⟨Fs, x, y⟩ := t
    show Out.W (Out.bind _ _) _ _ = _
    rw [Out.W_bind, run2]
    show kRun X [x, y] _ Fs ρ2 = kRun X [x, y] _ Fs ρ2
    congr 1; funext d ρ3
    cases d <;> rfl
def unW (X : XP) (o : Option (Fn × D)) (alt : Option D) (ρ : En) (Q : D → En → Prop) (h : D → Option D) : Prop := match o with
  | some (Fs, x) => kRun X [x] (kOp h Q) Fs ρ
  | none => OpW alt ρ Q
theorem w_unWS {x : D} {alt : Option D} {h : D → Option D} : unW X (some (Fs, x)) alt ρ QD h = kRun X [x] (kOp h QD) Fs ρ := rfl
theorem w_unWN {alt : Option D} {h : D → Option D} : unW X none alt ρ QD h = OpW alt ρ QD := rfl
def ownF (tab : List (Str × Fn)) (ρ : En) (o : Opnd) : Option (Fn × D) := (fz ρ o).bind fun x => (own1 tab x).map fun Fs => (Fs, x)
def kUnO (X : XP) (tab : List (Str × Fn)) (g : List D → Option D) (h : D → Option D) (Q : D → En → Prop) : Opnd → En → Prop := fun o ρ => unW X (ownF tab ρ o) ((deref ρ o).bind fun x => g [x]) ρ Q h
theorem w_kUnO {g : List D → Option D} {h : D → Option D} {o : Opnd} : kUnO X tab g h QD o ρ = unW X (ownF tab ρ o) ((deref ρ o).bind fun x => g [x]) ρ QD h := rfl
def lenR : D → Option D
  | .int n => if 0 ≤ n ∧ n < 1000000 then some (.int n) else none
  | _ => none
def strR : D → Option D
  | .str n => some (.str n)
  | _ => none
theorem lenR_int {n : Int} : lenR (.int n) = if 0 ≤ n ∧ n < 1000000 then some (.int n) else none := rfl
theorem strR_str {n : Str} : strR (.str n) = some (.str n) := rfl
theorem w_lenS {fa : En → Out Opnd} : (lenS tab fa ρ).W X QD = (fa ρ).W X (kUnO X tab lenG lenR QD) := by
  unfold lenS
  rw [Out.W_bind]
  congr 1; funext o ρ1
  unfold kUnO ownF
  cases (fz ρ1 o).bind fun x => (own1 tab x).map fun Fs => (Fs, x) with
  | none => show Out.W _ _ _ = OpW _ _ _; dsimp only; rw [w_lift]
  | some t =>
    obtain ⟨Fs, x⟩ := t
    show Out.W (Out.bind _ _) _ _ = _
    rw [Out.W_bind, run1]
    show kRun X [x] _ Fs ρ1 = kRun X [x] _ Fs ρ1
    congr 1; funext d ρ3
    cases d with
    | int n => show Out.W (if _ then _ else _) X QD = OpW (if _ then _ else _) _ _; split <;> rfl
    | _ => rfl
theorem w_strS {fa : En → Out Opnd} : (strS tab fa ρ).W X QD = (fa ρ).W X (kUnO X tab strG strR QD) := by
  unfold strS
  rw [Out.W_bind]
  congr 1; funext o ρ1
  unfold kUnO ownF
  cases (fz ρ1 o).bind fun x => (own1 tab x).map fun Fs => (Fs, x) with
  | none => show Out.W _ _ _ = OpW _ _ _; dsimp only; rw [w_lift]
  | some t =>
    obtain ⟨Fs, x⟩ := t
    show Out.W (Out.bind _ _) _ _ = _
    rw [Out.W_bind, run1]
    show kRun X [x] _ Fs ρ1 = kRun X [x] _ Fs ρ1
    congr 1; funext d ρ3
    cases d <;> rfl
def kCo3 (X : XP) (d : D) (Fs : Fn) (Q : D → En → Prop) : List D → En → Prop := fun ds ρ => kRun X (d :: ds) Q Fs ρ
def kCo2 (X : XP) (d : D) (fa : En → Out (List D)) (Q : D → En → Prop) : Fn → En → Prop := fun Fs ρ => (fa ρ).W X (kCo3 X d Fs Q)
def kCo (X : XP) (tab : List (Str × Fn)) (fa : En → Out (List D)) (Q : D → En → Prop) : D → En → Prop := fun d ρ => OpW (own1 tab d) ρ (kCo2 X d fa Q)
theorem w_kCo3 : kCo3 X d Fs QD ds ρ = kRun X (d :: ds) QD Fs ρ := rfl
theorem w_kCo2 {fa : En → Out (List D)} : kCo2 X d fa QD Fs ρ = (fa ρ).W X (kCo3 X d Fs QD) := rfl
theorem w_kCo {fa : En → Out (List D)} : kCo X tab fa QD d ρ = OpW (own1 tab d) ρ (kCo2 X d fa QD) := rfl
theorem w_callOS {fo : En → Out D} {fa : En → Out (List D)} : (callOS tab fo fa ρ).W X QD = (fo ρ).W X (kCo X tab fa QD) := by
  unfold callOS
  rw [Out.W_bind]
  congr 1; funext x ρ1
  unfold kCo
  cases own1 tab x with
  | none => rfl
  | some Fs =>
    show Out.W (Out.bind _ _) _ _ = (fa ρ1).W X _
    rw [Out.W_bind]
    congr 1; funext ds ρ2
    exact run_callS (ds := x :: ds)
/-! slots, tables -/
def fzV : Option SV → Option D
  | some (.val d) => some d
  | _ => none
theorem fz_v : fz ρ (.v d) = some d := rfl
theorem fz_s {i : Nat} : fz ρ (.s i) = fzV ρ[i]? := by
  show (match ρ[i]? with | some (.val d) => some d | _ => none) = _
  cases ρ[i]? with
  | none => rfl
  | some x => cases x <;> rfl
theorem fzV_val : fzV (some (.val d)) = some d := rfl
theorem fzV_own : fzV (some (.own d)) = none := rfl
theorem fzV_io : fzV (some (.io d)) = none := rfl
theorem own1_ins {n : Str} {ks : List Str} : own1 tab (.ins n ks ds) = tab.lookup n := rfl
theorem own1_non : own1 tab .non = none := rfl
theorem own1_bl {b : Bool} : own1 tab (.bl b) = none := rfl
theorem own1_int {i : Int} : own1 tab (.int i) = none := rfl
theorem own1_str {z : Str} : own1 tab (.str z) = none := rfl
theorem own1_lst : own1 tab (.lst ds) = none := rfl
theorem own1_tup : own1 tab (.tup ds) = none := rfl
theorem own1_dct {ks : List L2.Key} : own1 tab (.dct ks ds) = none := rfl
theorem own1_grp {ws : List Str} : own1 tab (grp ws) = tab.lookup ("Group" : Str) := rfl
theorem own1_ordr {ws : List Str} : own1 tab (ordr ws) = tab.lookup ("Order" : Str) := rfl
theorem own2_eq {a b : Opnd} : own2 tab ρ a b = (fz ρ a).bind fun x => (own1 tab x).bind fun Fs => (fz ρ b).bind fun y => if anyD y = true then some (Fs, x, y) else none := rfl
theorem ownF_eq {o : Opnd} : ownF tab ρ o = (fz ρ o).bind fun x => (own1 tab x).map fun Fs => (Fs, x) := rfl
theorem any_non : anyD .non = true := rfl
theorem any_bl {b : Bool} : anyD (.bl b) = true := rfl
theorem any_int {i : Int} : anyD (.int i) = true := rfl
theorem any_str {z : Str} : anyD (.str z) = true := rfl
theorem any_lst : anyD (.lst ds) = true := rfl
theorem any_tup : anyD (.tup ds) = true := rfl
theorem any_dct {ks : List L2.Key} : anyD (.dct ks ds) = true := rfl
theorem any_ins {n : Str} {ks : List Str} : anyD (.ins n ks ds) = true := rfl
theorem any_grp {ws : List Str} : anyD (grp ws) = true := rfl
theorem any_ordr {ws : List Str} : anyD (ordr ws) = true := rfl
/-! places -/
end
def wOwn := And.intro @w_xRun <| And.intro @w_kRunR <| And.intro @w_kRun <| And.intro @w_kInv <| And.intro @w_inv1S <| And.intro @w_bopS <| And.intro @w_bopN <| And.intro @w_kBop1 <| And.intro @w_kBop2 <| And.intro @kOp_some <| And.intro @w_bop <| And.intro @w_sixS <| And.intro @w_eqS <| And.intro @w_kIn1 <| And.intro @w_kIn2 <| And.intro @w_inOS <| And.intro @w_unWS <| And.intro @w_unWN <| And.intro @w_kUnO <| And.intro @w_lenS <| And.intro @w_strS <| And.intro @w_kCo3 <| And.intro @w_kCo2 <| And.intro @w_kCo <| @w_callOS
def wOwn2 := And.intro @negB_bl <| And.intro @lenR_int <| And.intro @strR_str <| And.intro @fz_v <| And.intro @fz_s <| And.intro @fzV_val <| And.intro @fzV_own <| And.intro @fzV_io <| And.intro @own1_ins <| And.intro @own1_non <| And.intro @own1_bl <| And.intro @own1_int <| And.intro @own1_str <| And.intro @own1_lst <| And.intro @own1_tup <| And.intro @own1_dct <| And.intro @own1_grp <| And.intro @own1_ordr <| And.intro @own2_eq <| And.intro @ownF_eq <| And.intro @any_non <| And.intro @any_bl <| And.intro @any_int <| And.intro @any_str <| And.intro @any_lst <| And.intro @any_tup <| And.intro @any_dct <| And.intro @any_ins <| And.intro @any_grp <| And.intro @any_ordr <| And.intro @revX_lst <| @revX_tup
end Kd
/-! ## plain laws: repr, numbered things, rows of words -/
namespace Kd
open PySem PyProof.Rows Kq
theorem shown_sum {ds : List PyData} (h : ∀ d ∈ ds, Sm d) : ((PyData.shownAll ds).map (·.length)).sum ≤ 20000 * ds.length := by
  have h2 : ((PyData.shownAll ds).map (·.length)).sum ≤ 20000 * ((PyData.shownAll ds).map (·.length)).length := sum_le fun t ht => by
    rw [shownAll_eq, List.map_map] at ht
    obtain ⟨d, hd, rfl⟩ := List.mem_map.mp ht
    exact (h d hd).ln
  rwa [List.length_map, shownAll_eq, List.length_map, ← shownAll_eq] at h2
theorem shownAll_len (ds : List PyData) : (PyData.shownAll ds).length = ds.length := by rw [shownAll_eq, List.length_map]
theorem sm_depth {ds : List PyData} (h : ∀ d ∈ ds, Sm d) : PyData.depthAll ds + 1 ≤ 30 := by
  have := depthAll_of (n := 8) fun d hd => (h d hd).dp
  omega
theorem addG_lst {xs ys : List D} (h : xs.length + ys.length ≤ 4096) : addG (.lst xs) (.lst ys) = some (.lst (xs ++ ys)) := if_pos h
/-! greatest and least, turned about -/
end Kd
/-! ## the law itself, where it makes lambdas -/
namespace Kd
open PySem PySem.Spec PyProof.Rows L2 Kq StX ClX LamX
end Kd
/-! ## unpacking lists, xs.index(text), sorted(ints), list(range(..)) -/
namespace Kd
open PySem PySem.Spec PyProof.Rows L2 Kq StX ClX LamX
/-! ### xs.index(text) -/
/-! ### sorted(ints) -/
/-! ### list(range(..)) -/
end Kd
/-! ## a name bound anew by an own operator -/
namespace Kd
open PySem PySem.Calls PySem.Spec PyProof.Rows PySem.W
end Kd
namespace Kd
open PySem PySem.Spec PyProof.Rows L2 Kq StX ClX LamX
end Kd
namespace Kd
open PySem PySem.Spec PyProof.Rows L2 Kq StX ClX LamX
end Kd
/-! ## a, b = x, y where y is new and b's own -/
namespace Kd
open PySem PySem.Spec PyProof.Rows L2 Kq StX ClX LamX
/-! ### plain -/
end Kd
/-! ## o.m(b = x, a = y): keywords in another row -/
namespace Kd
open PySem PySem.Spec PyProof.Rows L2 Kq StX ClX
/-! ### plain -/
end Kd
/-! ## [*a, x, *b] and list(range(..)) -/
namespace Kd
open PySem PySem.Spec PyProof.Rows L2 Kq StX ClX LamX
/-! ### plain -/
end Kd
/-! ## for x in o, list(o): own iterables over the tuple in their field row -/
namespace Kd
open PySem PySem.Spec PyProof.Rows L2 Kq StX ClX LamX RZ
/-! ### plain -/
end Kd
/-! ## == and != of lists of any things, where their lengths say all -/
namespace Kd
open PySem PySem.Spec PyProof.Rows L2 Kq StX ClX LamX
end Kd
/-! ## xs[::k] of a list, forwards or backwards -/
namespace Kd
open PySem PySem.Spec PyProof.Rows L2 Kq StX ClX LamX
end Kd
/-! ## plain laws: more helps, for all laws -/
namespace Kd
open PySem PyProof.Rows Kq
/-! ### reprs -/
/-! ### joining -/
/-! ### odd values -/
end Kd
/-! ## C.m(k = e), o(k = e), z * n, {}, xs + ys as a new list, repr of data with other dicts -/
namespace Kd
open PySem PySem.Spec PyProof.Rows L2 Kq StX ClX LamX
variable {c : Cn}
/-! ### C.m(k = e) -/
/-! ### z * n -/
/-! ### {} -/
/-! ### repr of data with dicts of other tables -/
def scD : D → V → Bool
  | .non, .non => true
  | .bl b, .bl k => decide (b = k)
  | .int i, .int j => decide (i = j)
  | .str x, .str y => decide (x = y)
  | _, _ => false
def scDs : List D → List V → Bool
  | [], [] => true
  | d :: ds, v :: vs => scD d v && scDs ds vs
  | _, _ => false
mutual
def pyT (T : Tb) : D → Option PyData
  | .non => some .none
  | .bl b => some (.bool b)
  | .int i => some (.int i)
  | .str x => some (.str x)
  | .lst ds => (pyTs T ds).map .list
  | .tup ds => (pyTs T ds).map .tuple
  | .dct ks ds => if ks = T.map (·.1) ∧ scDs ds (T.map (·.2)) = true then some (tD T) else none
  | _ => none
def pyTs (T : Tb) : List D → Option (List PyData)
  | [] => some []
  | d :: ds => match pyT T d, pyTs T ds with
    | some x, some xs => some (x :: xs)
    | _, _ => none
end
theorem scD_rep {F : Hp} {v u : V} {d : D} (r : Rep c F v d) (h : scD d u = true) : v = u := by
  cases d <;> cases u <;> first | (cases h; done) | (cases r; first | rfl | (rw [show _ = _ from of_decide_eq_true h]) | (have := of_decide_eq_true h; subst this; rfl))
theorem scDs_rep {F : Hp} : ∀ {vs us : List V} {ds : List D}, Reps c F vs ds → scDs ds us = true → vs = us
  | [], [], [], .nil, _ => rfl
  | _, [], _ :: _, .cons .., h => by cases h
  | _, _ :: _, [], .nil, h => by cases h
  | v :: vs, u :: us, d :: ds, .cons r rs, h => by
    rw [scDs, Bool.and_eq_true] at h
    rw [scD_rep r h.1, scDs_rep rs h.2]
theorem tb_of {kvs : List (Key × V)} {T : Tb} (h1 : kvs.map (·.1) = T.map (·.1)) (h2 : kvs.map (·.2) = T.map (·.2)) : kvs = T := by
  induction kvs generalizing T with
  | nil => cases T with
    | nil => rfl
    | cons _ _ => cases h1
  | cons p kvs ih => cases T with
    | nil => cases h1
    | cons q T =>
      simp only [List.map_cons, List.cons.injEq] at h1 h2
      rw [ih h1.2 h2.2, Prod.ext h1.1 h2.1]
mutual
theorem Rep.dqT {F : Hp} {T : Tb} : ∀ {v : V} {d : D} {q : PyData}, Rep c F v d → pyT T d = some q → Dq T F v q
  | _, _, _, .non, e => by simp only [pyT] at e; cases e; exact .non
  | _, _, _, .bl b, e => by simp only [pyT] at e; cases e; exact .bl b
  | _, _, _, .int i, e => by simp only [pyT] at e; cases e; exact .int i
  | _, _, _, .str x, e => by simp only [pyT] at e; cases e; exact .str x
  | _, _, _, .lst (ds := ds) h r, e => by
    simp only [pyT] at e
    obtain ⟨qs, e1, e2⟩ := Option.map_eq_some_iff.mp e
    subst e2
    exact .lst h (Reps.dqT r e1)
  | _, _, _, .tup (ds := ds) h r, e => by
    simp only [pyT] at e
    obtain ⟨qs, e1, e2⟩ := Option.map_eq_some_iff.mp e
    subst e2
    exact .tup h (Reps.dqT r e1)
  | _, _, _, .dct h k r, e => by
    simp only [pyT] at e
    split at e
    · rename_i hh
      cases e
      have := tb_of (k.trans hh.1) (scDs_rep r hh.2)
      subst this
      exact .dct h
    · cases e
  | _, _, _, .ty n, e => by simp only [pyT] at e; cases e
  | _, _, _, .scr n, e => by simp only [pyT] at e; cases e
  | _, _, _, .cls a b, e => by simp only [pyT] at e; cases e
  | _, _, _, .ins a b f g h, e => by simp only [pyT] at e; cases e
  | _, _, _, .exc a b f f2 g h, e => by simp only [pyT] at e; cases e
theorem Reps.dqT {F : Hp} {T : Tb} : ∀ {vs : List V} {ds : List D} {qs : List PyData}, Reps c F vs ds → pyTs T ds = some qs → Dqs T F vs qs
  | _, _, _, .nil, e => by simp only [pyTs] at e; cases e; exact .nil
  | _, _, _, .cons (d := d) (ds := ds) a b, e => by
    simp only [pyTs] at e
    cases e1 : pyT T d with
    | none => rw [e1] at e; cases e
    | some x =>
      cases e2 : pyTs T ds with
      | none => rw [e1, e2] at e; cases e
      | some xs => rw [e1, e2] at e; cases e; exact .cons (Rep.dqT a e1) (Reps.dqT b e2)
end
theorem RepT.dqT {F H : Hp} {T : Tb} {v : V} {d : D} {q : PyData} (hS : Same F H) (r : RepT c F H v d) (e : pyT T d = some q) : Dq T H v q := by
  cases d with
  | lst ds =>
    simp only [pyT] at e
    obtain ⟨qs, e1, e2⟩ := Option.map_eq_some_iff.mp e
    subst e2
    obtain ⟨p, xs, rfl, h1, h2⟩ := r
    exact .lst h1 ((h2.dqT e1).mono hS)
  | dct ks ds =>
    simp only [pyT] at e
    obtain ⟨p, kvs, rfl, h1, h2, h3⟩ := r
    split at e
    · rename_i hh
      cases e
      have := tb_of (h2.trans hh.1) (scDs_rep h3 hh.2)
      subst this
      exact .dct h1
    · cases e
  | ins n ks ds => simp only [pyT] at e; cases e
  | non => exact (Rep.dqT r e).mono hS
  | bl b => exact (Rep.dqT r e).mono hS
  | int b => exact (Rep.dqT r e).mono hS
  | str b => exact (Rep.dqT r e).mono hS
  | ty b => simp only [pyT] at e; cases e
  | scr b => simp only [pyT] at e; cases e
  | cls b => simp only [pyT] at e; cases e
  | tup ds => exact (Rep.dqT r e).mono hS
  | exc n ks ds => simp only [pyT] at e; cases e
def reprT1 (T : Tb) (d : D) : Option D := if isRef d = true then (pyT T d).bind fun q => if q.showable = true ∧ q.depth ≤ 30 ∧ q.shown.length ≤ 1000000 then some (.str q.shown) else none else none
def reprGL (Ts : List Tb) : List D → Option D
  | [d] => Ts.findSome? fun T => reprT1 T d
  | _ => none
def rReprL (Ts : List Tb) : List V → Hp → VK → Prop := fun xs H Q => ∃ T ∈ Ts, rRepr T xs H Q
theorem call_reprL {Ts : List Tb} {X : Cx} (h1 : NoSys X) (hT : ∀ T ∈ Ts, flatT T = true) (hgd : X.A.guards = some []) (hu : X.A.units + 64 < cLine) : CallR X (.builtin "repr") (rReprL Ts) := by
  intro pins s σ H xs us Q I r h
  obtain ⟨T, hm, h⟩ := h
  exact call_repr h1 (hT T hm) hgd hu pins s σ H xs us Q I r h
theorem reprL_link {Ts : List Tb} : CaL c (rReprL Ts) (reprGL Ts) := by
  intro F H xs ds d Q hS rp e q
  match ds, xs, rp, e with
  | [a], [x], .cons r1 .nil, e =>
    have e : (Ts.findSome? fun T => reprT1 T a) = some d := e
    obtain ⟨T, hm, e1⟩ := List.exists_of_findSome?_eq_some e
    refine ⟨T, hm, ?_⟩
    unfold reprT1 at e1
    split at e1
    · rename_i hr
      obtain ⟨p, e2, e3⟩ := Option.bind_eq_some_iff.mp e1
      split at e3
      · rename_i hp
        cases e3
        have dq := r1.dqT hS e2
        obtain ⟨ad, rfl⟩ : ∃ ad, x = .ref ad := by
          cases a with
          | lst ds => obtain ⟨p, xs, rfl, _⟩ := r1; exact ⟨p, rfl⟩
          | dct ks ds => obtain ⟨p, xs, rfl, _⟩ := r1; exact ⟨p, rfl⟩
          | tup ds => cases r1; exact ⟨_, rfl⟩
          | ins n ks ds => obtain ⟨p, C, dx, fs, rfl, _⟩ := r1; exact ⟨p, rfl⟩
          | _ => cases hr
        exact ⟨_, ad, p, rfl, rfl, dq, hp.1, hp.2.1, by rw [sizeLine_eq]; omega, q _ _ _ (.refl hS) (.str _)⟩
      · cases e3
    · cases e1
  | [], _, _, e => cases e
  | _ :: _ :: _, _, _, e => cases e
end Kd
/-! ## plain laws: texts of any kind, their lengths -/
namespace Kd
open PySem PyProof.Rows Kq
end Kd
/-! ## o(k = e) -/
namespace Kd
open PySem PySem.Spec PyProof.Rows L2 Kq StX ClX LamX
end Kd
/-! ## plain laws: o(k = e); reprs of data with dicts of other tables -/
namespace Kd
open PySem PyProof.Rows Kq
/-! ### repr with tables -/
theorem reprL_some {Ts : List Tb} {T : Tb} {d : D} {q : PyData} (hT : T ∈ Ts) (h : pyT T d = some q) (hr : isRef d = true) (h1 : q.showable = true) (h2 : q.depth ≤ 30) (h3 : q.shown.length ≤ 1000000) : ∃ z, reprGL Ts [d] = some (.str z) := by
  have e1 : reprT1 T d = some (.str q.shown) := by
    unfold reprT1
    rw [if_pos hr, h]
    exact if_pos ⟨h1, h2, h3⟩
  have all : ∀ T' x, reprT1 T' d = some x → ∃ z, x = .str z := fun T' x e => by
    unfold reprT1 at e
    rw [if_pos hr] at e
    obtain ⟨p, _, e2⟩ := Option.bind_eq_some_iff.mp e
    split at e2
    · cases e2; exact ⟨_, rfl⟩
    · cases e2
  show ∃ z, (Ts.findSome? fun T => reprT1 T d) = some (.str z)
  induction Ts with
  | nil => cases hT
  | cons T' Ts ih =>
    rw [List.findSome?_cons]
    cases e : reprT1 T' d with
    | some x =>
      obtain ⟨z, rfl⟩ := all T' x e
      exact ⟨z, rfl⟩
    | none =>
      rcases List.mem_cons.mp hT with rfl | hT
      · rw [e1] at e; cases e
      · exact ih hT
theorem pyTs_all {T : Tb} : ∀ {ds : List D}, (∀ d ∈ ds, ∃ q, pyT T d = some q ∧ Sm q) → ∃ qs, pyTs T ds = some qs ∧ (∀ q ∈ qs, Sm q) ∧ qs.length = ds.length
  | [], _ => ⟨[], by simp only [pyTs], by simp, rfl⟩
  | d :: ds, h => by
    obtain ⟨q, e, s⟩ := h d (List.mem_cons_self ..)
    obtain ⟨qs, es, ss, l⟩ := pyTs_all fun x hx => h x (List.mem_cons_of_mem _ hx)
    refine ⟨q :: qs, by simp only [pyTs, e, es], fun x hx => ?_, by simp [l]⟩
    rcases List.mem_cons.mp hx with rfl | hx
    · exact s
    · exact ss x hx
theorem reprL_lst {Ts : List Tb} {T : Tb} {ds : List D} (hT : T ∈ Ts) (h : ∀ d ∈ ds, ∃ q, pyT T d = some q ∧ Sm q) (hl : ds.length ≤ 40) : ∃ z, reprGL Ts [.lst ds] = some (.str z) := by
  obtain ⟨qs, es, ss, l⟩ := pyTs_all h
  have h1 := listText_le (PyData.shownAll qs)
  have h2 := shown_sum ss
  rw [shownAll_len] at h1
  refine reprL_some (q := .list qs) hT (by simp only [pyT, es, Option.map_some]) rfl (showableAll_of ss) (sm_depth ss) ?_
  show (listText (PyData.shownAll qs)).length ≤ 1000000
  omega
end Kd
/-! ## what one has is lent: while an expression is worked out it is fixed, behind it one has it again -/
namespace Kd
open PySem PySem.Spec PyProof.Rows L2 Kq StX ClX LamX
variable {c : Cn}
/-- what is lent: a list, a dict, an instance -/
def kindD : D → Nat
  | .lst _ => 0
  | .dct _ _ => 1
  | .ins _ _ _ => 2
  | _ => 3
def KindO (k : Nat) : HO → Prop
  | .lst _ => k = 0
  | .dK _ => k = 1
  | .ins _ _ _ => k = 2
  | _ => False
section
variable {F : Hp} {p : Addr} {o : HO} {k : Nat}
theorem Own.kind {R H : Hp} {q : Addr} {d : D} (r : Own c F R H q d) : ∃ o, H q = some o ∧ KindO (kindD d) o := by
  cases d with
  | lst ds => obtain ⟨a, b, xs, hq, rs⟩ := r; exact ⟨_, hq, rfl⟩
  | dct ks ds => obtain ⟨a, b, kvs, hq, kk, rs⟩ := r; exact ⟨_, hq, rfl⟩
  | ins m ks ds => obtain ⟨a, b, C, dx, fs, i, mm, hq, kk, rs⟩ := r; exact ⟨_, hq, rfl⟩
  | _ => exact r.elim
end
end Kd
/-! ## what is new and not yet named is held; new instances from classmethods; properties; own [i] = x; dead code -/
namespace Kd
open PySem PySem.Spec PyProof.Rows L2 Kq StX ClX LamX
variable {c : Cn}
section
variable {π π' : List (Nat × Addr)} {F F' R H H' : Hp} {σ σ' : L2.St} {ρ ρ' : En} {p : Addr} {o : HO} {d : D}
theorem Own.obj (r : Own c F R H p d) : ∃ o, H p = some o ∧ (∀ ps, o ≠ .tbl ps) ∧ ∀ f, o ≠ .ext f := by
  cases d with
  | lst ds => obtain ⟨a, b, xs, h, q⟩ := r; exact ⟨_, h, fun _ => nofun, fun _ => nofun⟩
  | dct ks ds => obtain ⟨a, b, kvs, h, k, q⟩ := r; exact ⟨_, h, fun _ => nofun, fun _ => nofun⟩
  | ins n ks ds => obtain ⟨a, b, C, dx, fs, i, m, h, k, q⟩ := r; exact ⟨_, h, fun _ => nofun, fun _ => nofun⟩
  | _ => exact False.elim r
end
/-! ### a, b = x, y where x is new and a's own -/
/-! ### cls(..), C.m(..) that give something new -/
end Kd
/-! ## properties; o[i] = x by an own method; iteration over an own instance's list -/
namespace Kd
open PySem PySem.Spec PyProof.Rows L2 Kq StX ClX LamX
/-! ### o.f, a property -/
/-! ### o[i] = x by an own method -/
end Kd
/-! ## for x in o: own iterables over the list in a field -/
namespace Kd
open PySem PySem.Spec PyProof.Rows L2 Kq StX ClX LamX ItX
end Kd
/-! ## f(k = e, ..) of a def at the top -/
namespace Kd
open PySem PySem.Spec PyProof.Rows L2 Kq StX ClX LamX
end Kd
/-! ## tables for the head; plain laws of Kd49 .. Kd53 -/
namespace Kd
open PySem PySem.Spec PyProof.Rows L2 Kq StX ClX LamX
/-! ### plain -/
end Kd
/-! ## a = b = e -/
namespace Kd
open PySem PySem.Spec PyProof.Rows L2 Kq StX ClX LamX
end Kd
/-! ## name = {k: v for ..} on one line -/
namespace L2
open PySem PySem.Spec PyProof.Rows
end L2
namespace Kd
open PySem PySem.Spec PyProof.Rows L2 Kq StX ClX LamX
end Kd
/-! ## k in a dict -/
namespace Kd
open PySem PySem.Spec PyProof.Rows L2 Kq StX ClX LamX
end Kd
/-! ## list(x) as a new list -/
namespace Kd
open PySem PySem.Spec PyProof.Rows L2 Kq StX ClX LamX
end Kd
/-! ## what one has elsewhere is hidden while an expression runs -/
namespace Kd
open PySem PySem.Spec PyProof.Rows L2 Kq StX ClX LamX
end Kd
/-! ## a, b = x, y where both are new and own -/
namespace Kd
open PySem PySem.Spec PyProof.Rows L2 Kq StX ClX LamX
/-! ### plain -/
end Kd
/-! ## plain: loops by a test; what is lent and hidden -/
namespace Kd
open PySem PySem.Spec PyProof.Rows L2 Kq StX ClX LamX
end Kd
/-! ## repr of a truth value, of None, of an int -/
namespace Kd
open PySem PySem.Spec PyProof.Rows L2 Kq StX ClX LamX
variable {c : Cn}
def orG (g1 g2 : List D → Option D) (ds : List D) : Option D := match g1 ds with
  | some d => some d
  | none => g2 ds
theorem CaL.or {r1 r2 : List V → Hp → VK → Prop} {g1 g2 : List D → Option D} (h1 : CaL c r1 g1) (h2 : CaL c r2 g2) : CaL c (fun xs H Q => r1 xs H Q ∨ r2 xs H Q) (orG g1 g2) := by
  intro F H xs ds d Q hS rp e q
  unfold orG at e
  cases e1 : g1 ds with
  | some d1 => rw [e1] at e; cases e; exact .inl (h1 F H xs ds d Q hS rp e1 q)
  | none => rw [e1] at e; exact .inr (h2 F H xs ds d Q hS rp e q)
end Kd
/-! ## xs.pop(i), xs.pop(), xs.extend(ys) of own lists -/
namespace Kd
open PySem PySem.Spec PyProof.Rows L2 Kq StX ClX LamX
/-! ### extend by a tuple -/
end Kd
/-! ## plain: pop and extend -/
namespace Kd
open PySem PySem.Spec PyProof.Rows L2 Kq StX ClX LamX
end Kd
/-! ## a tuple == an instance with an own __eq__ -/
namespace Kd
open PySem PySem.Spec PyProof.Rows L2 Kq StX ClX LamX
end Kd
/-! ## == of lists and tuples whose items run defs of their own -/
namespace JEq
open PySem PySem.Spec PyProof.Rows
open AutoSeq1 (wpAny_loadPart')
open MeetsSeq MeetsSeq2 MeetsSeq3 SeqRoads2 SeqAt
section
variable {prog : Program} {w : World} {A : Around}
/-- the two are compared, and all that J says stands behind it -/
def IRun (prog : Program) (w : World) (A : Around) (J : Shared → Prop) (u v : Value) (r : Bool) : Prop :=
  ∀ (E : Value → Shared → Prop) (Q : Bool → Shared → Prop) (s : Shared), J s → (∀ s', J s' → Q r s') → wpAny (model prog w) A (eqBool u v) Q E s
def RRun (prog : Program) (w : World) (A : Around) (J : Shared → Prop) (u v : Value) (r : Bool) : Prop :=
  ∀ (E : Value → Shared → Prop) (Q : Value → Shared → Prop) (s : Shared), J s → (∀ s', J s' → Q (.bool r) s') → wpAny (model prog w) A (richCompare .Eq u v) Q E s
variable {J : Shared → Prop}
theorem IRun.of {u v : Value} {r : Bool} (hf : Kq.notFl u = true) (hs : u = v → r = true) (h : u ≠ v → RRun prog w A J u v r) : IRun prog w A J u v r := by
  intro E Q s hj hq
  by_cases hab : u = v
  · subst hab
    have := hs rfl
    subst this
    exact (EqAt.same (A := A) (s := s) u) prog w E Q (hq s hj)
  · unfold eqBool
    refine wpAny_holding ?_
    refine wpAny_ite_split (fun z => absurd (eq_of_beq z) hab) (fun _ => ?_)
    have key := h hab E (fun v s' => ∃ b, v = .bool b ∧ Q b s') s hj (fun s' hj' => ⟨r, rfl, hq s' hj'⟩)
    cases u with
    | float x t => exact absurd (show false = true from hf) Bool.false_ne_true
    | _ => exact wpAny_bind (wpAny_mono key (fun v s' ⟨b, e, q⟩ => by subst e; exact wpAny_truthy_bool q) fun _ _ e => e)
variable {l b : Addr} {N : Nat} {PA PB : Array Value → Prop}
/-! ### tuples -/
variable {its ks : Array Value} {n m : Nat} {dd dd2 : Option Addr} {sl sl2 : Array (Option Value)}
end
end JEq
/-! ## deep ==: lists and tuples, any way nested, of plain data and of instances with an own __eq__ -/
namespace Kd
open PySem PySem.Spec PyProof.Rows L2 Kq StX ClX LamX JEq SeqAt
variable {c : Cn}
mutual
/-- may be one and the same thing -/
def sim : D → D → Bool
  | .non, y => (match y with | .non => true | .scr _ => true | .cls _ => true | _ => false)
  | .bl a, y => (match y with | .bl b => a == b | .scr _ => true | .cls _ => true | _ => false)
  | .int a, y => (match y with | .int b => decide (a = b) | .scr _ => true | .cls _ => true | _ => false)
  | .str a, y => (match y with | .str b => decide (a = b) | .scr _ => true | .cls _ => true | _ => false)
  | .lst xs, y => (match y with | .lst ys => sims xs ys | .scr _ => true | .cls _ => true | _ => false)
  | .tup xs, y => (match y with | .tup ys => sims xs ys | .scr _ => true | .cls _ => true | _ => false)
  | .dct _ xs, y => (match y with | .dct _ ys => sims xs ys | .scr _ => true | .cls _ => true | _ => false)
  | .ins _ ks xs, y => (match y with | .ins _ ks' ys => decide (ks = ks') && sims xs ys | .scr _ => true | .cls _ => true | _ => false)
  | _, _ => true
def sims : List D → List D → Bool
  | [], [] => true
  | x :: xs, y :: ys => sim x y && sims xs ys
  | _, _ => false
end
/-! ### where one stands -/
end Kd
/-! ## deep == as a value and as a test -/
namespace Kd
open PySem PySem.Spec PyProof.Rows L2 Kq StX ClX LamX JEq SeqAt
/-! ### plain -/
/-! ### what it gives -/
end Kd
/-! ## f(e, k = e2, ..) of a def at the top: one by place, the rest by name -/
namespace Kd
open PySem PySem.Spec PyProof.Rows L2 Kq StX ClX LamX
end Kd
/-! ## C(k = e, ..) of an own class; isinstance(error, ValueError) -/
namespace Kd
open PySem PySem.Spec PyProof.Rows L2 Kq StX ClX LamX
variable {c : Cn}
/-! ### isinstance(x, ValueError), x an error -/
def VeOk (c : Cn) (K : PySem.W.Frag) : Prop := ∀ n C, n ∈ c.xs → c.mg n = some (.ref C) → PySem.W.kitOne K (.ref C) (.type "ValueError") = some true ∧ ExcC K C
def isvG : List D → Option D
  | [.exc _ _ _, .ty u] => if u = "ValueError" then some (.bl true) else none
  | _ => none
theorem isv_link {K : PySem.W.Frag} (ok : VeOk c K) : CaL c (fun xs H Q => rIsX K xs H Q) isvG := by
  intro F H xs ds d Q hS rp e q
  match ds, xs, rp, e with
  | [.exc n ks es, .ty u], [x, y], .cons r1 (.cons r2 .nil), e =>
    have e : (if u = "ValueError" then some (D.bl true) else none) = some d := e
    by_cases hu : u = "ValueError"
    · rw [if_pos hu] at e
      cases e
      subst hu
      have r2 : Rep c F y (.ty "ValueError") := r2
      cases r2
      have r1 : Rep c F x (.exc n ks es) := r1
      cases r1 with
      | exc hn hm e1 e2 _ _ =>
        obtain ⟨k1, k2⟩ := ok n _ hn hm
        exact ⟨_, _, _, _, _, .type "ValueError", true, rfl, fun u hu => (ClsV.ty "ValueError").eq hu, hS _ _ e1, e2.mono hS, k2, k1, q _ _ _ (.refl hS) (.bl _)⟩
    · rw [if_neg hu] at e; cases e
theorem de_isv {X : Cx} {W : WX} {np pos : Pos} {a b : Expr} {fs : En → Out (List Opnd)} (ok : VeOk c X.K) (hm : X.mg "isinstance" = none) (ha : DOs c X W (a :: b :: []) fs) (hg : Gl X "isinstance" := by rfl)
    (he : starEach (a :: b :: []) X.env = (false, eval a X.env) :: starEach [b] X.env := by rfl) (hpl : (backTo pos (starEach [b] X.env)).any (·.1) = false := by rfl) : DE c X W (.Call (.Name "isinstance" np) [a, b] [] pos) (cal isvG fs) :=
  (pe_callB call_isX hg hm PyProof.Rows.boot_isinstance ha (he := he) (hpl := hpl)).imp fun _ _ _ h => cal_i (isv_link ok) h
def veB (K : PySem.W.Frag) (l : List (Str × Addr)) : Bool := l.all fun p => decide (PySem.W.kitOne K (.ref p.2) (.type "ValueError") = some true)
theorem ve_of {K : PySem.W.Frag} {mg : Str → Option Value} {cl xl : List (Str × Addr)} {T : List (Addr × Str)} (hm : ∀ p ∈ cl ++ xl, mg p.1 = some (.ref p.2)) (h2 : xl.all (fun p => exB K p.2) = true) (h : veB K xl = true) : VeOk (cnOf K mg cl xl T) K := fun n C i e => by
  have q := at_of (fun p hp => hm p (List.mem_append_right _ hp)) i e
  exact ⟨of_decide_eq_true (List.all_eq_true.mp h _ q), (exB_ok (List.all_eq_true.mp h2 _ q)).2⟩
end Kd
/-! ## C.f, f a constant of the class -/
namespace Kd
open PySem PySem.Spec PyProof.Rows L2 Kq StX ClX LamX
end Kd
/-! ## f-strings of texts and numbers -/
namespace Kd
open PySem PySem.Spec PyProof.Rows L2 Kq StX ClX LamX
/-! ### plain -/
end Kd
/-! ## a, b, c = x, y, z -/
namespace Kd
open PySem PySem.Spec PyProof.Rows L2 Kq StX ClX LamX
end Kd
/-! ## C(b = x, a = y): keywords in another row; tuple != () -/
namespace Kd
open PySem PySem.Spec PyProof.Rows L2 Kq StX ClX LamX JEq SeqAt AutoSeq1
/-! ### tuple != () -/
end Kd
/-! ## xs[::2] -/
namespace Kd
open PySem PySem.Spec PyProof.Rows L2 Kq StX ClX LamX
end Kd
/-! ## bool(o), o with an own __len__ -/
namespace Kd
open PySem PySem.Spec PyProof.Rows L2 Kq StX ClX LamX
/-! ### plain -/
end Kd
/-! ## zip(o, p) of two own iterables -/
namespace Kd
open PySem PySem.Spec PyProof.Rows L2 Kq StX ClX LamX RZ
end Kd
/-! ## a, b = x, new where b is read by a lambda; a list is lent to what gives other lists -/
namespace Kd
open PySem PySem.Spec PyProof.Rows L2 Kq StX ClX LamX
/-! ### lending, where what is given has other lists -/
end Kd
/-! ## a list or a tuple in a row of texts -/
namespace Kd
open PySem PySem.Spec PyProof.Rows L2 Kq StX ClX LamX SeqAt
end Kd
/-! ## a, b, c = x, new, y where a lambda reads one of them -/
namespace Kd
open PySem PySem.Spec PyProof.Rows L2 Kq StX ClX LamX
variable {c : Cn}
section
variable {π : List (Nat × Addr)} {F F' R R' H H' : Hp} {σ : L2.St} {ρ ρ' : En} {p : Addr} {o : HO} {d : D}
theorem Own.setR (r : Own c F R H p d) (n : R' p = none) : Own c F R' H p d := by
  cases d with
  | lst ds => obtain ⟨a, b, q⟩ := r; exact ⟨a, n, q⟩
  | dct ks ds => obtain ⟨a, b, q⟩ := r; exact ⟨a, n, q⟩
  | ins m ks ds => obtain ⟨a, b, q⟩ := r; exact ⟨a, n, q⟩
  | _ => exact r.elim
theorem Wf.setR (w : Wf c π F R H σ ρ) (h1 : Same R' H) (h2 : ∀ q, R' q ≠ none → F q = none) (h3 : ∀ (i : Nat) (q : Addr), owned ρ[i]? = true → σ[i]? = some (some (.ref q)) → R' q = none)
    (h4 : ∀ q ps, R' q ≠ some (.tbl ps)) (h5 : ∀ q f, R' q ≠ some (.ext f)) : Wf c π F R' H σ ρ := by
  refine ⟨w.len, w.fh, h1, h2, fun i x e => ?_, w.sep, w.io, w.pin, ⟨w.tb.tabs, w.tb.f, h4, h5⟩⟩
  have z := w.slot i x e
  cases x with
  | un => trivial
  | val d => exact z
  | own d => obtain ⟨q, a, b⟩ := z; exact ⟨q, a, b.setR (h3 i q (by rw [e]; rfl) a)⟩
  | io d => obtain ⟨q, a, b⟩ := z; exact ⟨q, a, b.setR (h3 i q (by rw [e]; rfl) a)⟩
  | thk r => exact z
end
/-! ### plain -/
end Kd
/-! ## a list whose last item is a list that is changed -/
namespace Kd
open PySem PySem.Spec PyProof.Rows L2 Kq StX ClX LamX
variable {c : Cn}
section
variable {π : List (Nat × Addr)} {F F' R H H' : Hp} {σ σ' : L2.St} {ρ : En} {i : Nat} {p q q' : Addr} {xs xs' ys ys' : List V} {ds l : List D}
/-- nothing in the slots is had -/
def Free (ρ : En) : Prop := ∀ j : Nat, owned ρ[j]? = false
def R2L (R : Hp) (p q : Addr) (xs ys : List V) : Hp := upd (upd R p (.lst (xs ++ [.ref q]))) q (.lst ys)
theorem R2L_q : R2L R p q xs ys q = some (.lst ys) := upd_same
theorem R2L_p (h : p ≠ q) : R2L R p q xs ys p = some (.lst (xs ++ [.ref q])) := (upd_ne h).trans upd_same
theorem R2L_ne {a : Addr} (h1 : a ≠ p) (h2 : a ≠ q) : R2L R p q xs ys a = R a := (upd_ne h2).trans (upd_ne h1)
/-- slot i (empty in ρ) has a list that nobody else has, and so has its last item -/
structure NS (c : Cn) (π : List (Nat × Addr)) (F R H : Hp) (σ : L2.St) (ρ : En) (i : Nat) (p q : Addr) (xs ys : List V) : Prop where
  pl : σ[i]? = some (some (V.ref p))
  ne : p ≠ q
  rp : R p = none
  rq : R q = none
  w : Wf c π F (R2L R p q xs ys) H σ ρ
theorem NS.hp (n : NS c π F R H σ ρ i p q xs ys) : H p = some (.lst (xs ++ [.ref q])) := n.w.rh _ _ (R2L_p n.ne)
theorem NS.hq (n : NS c π F R H σ ρ i p q xs ys) : H q = some (.lst ys) := n.w.rh _ _ R2L_q
theorem NS.fp (n : NS c π F R H σ ρ i p q xs ys) : F p = none := n.w.dis _ (by rw [R2L_p n.ne]; exact nofun)
theorem NS.fq (n : NS c π F R H σ ρ i p q xs ys) : F q = none := n.w.dis _ (by rw [R2L_q]; exact nofun)
theorem NS.rs (n : NS c π F R H σ ρ i p q xs ys) : Same R H := fun a u e => by
  have h1 : a ≠ p := fun z => by subst z; rw [n.rp] at e; cases e
  have h2 : a ≠ q := fun z => by subst z; rw [n.rq] at e; cases e
  exact n.w.rh a u (by rw [R2L_ne h1 h2]; exact e)
theorem NS.rd (n : NS c π F R H σ ρ i p q xs ys) {a : Addr} (h : R a ≠ none) : F a = none := by
  have h1 : a ≠ p := fun z => by subst z; exact h n.rp
  have h2 : a ≠ q := fun z => by subst z; exact h n.rq
  exact n.w.dis a (by rw [R2L_ne h1 h2]; exact h)
theorem NS.rt (n : NS c π F R H σ ρ i p q xs ys) {a : Addr} (ps) : R a ≠ some (.tbl ps) := fun e => by
  have h1 : a ≠ p := fun z => by subst z; rw [n.rp] at e; cases e
  have h2 : a ≠ q := fun z => by subst z; rw [n.rq] at e; cases e
  exact n.w.tb.r a ps (by rw [R2L_ne h1 h2]; exact e)
theorem NS.rx (n : NS c π F R H σ ρ i p q xs ys) {a : Addr} (f) : R a ≠ some (.ext f) := fun e => by
  have h1 : a ≠ p := fun z => by subst z; rw [n.rp] at e; cases e
  have h2 : a ≠ q := fun z => by subst z; rw [n.rq] at e; cases e
  exact n.w.tb.rx a f (by rw [R2L_ne h1 h2]; exact e)
/-- another state of the two lists -/
theorem NS.to (n : NS c π F R H σ ρ i p q xs ys) (fr : Free ρ) (s : Same F F') (fh : Same F' H') (t : Tabs c.T H') (rs : Same R H') (hp : H' p = some (.lst (xs' ++ [.ref q']))) (hq : H' q' = some (.lst ys')) (ne : p ≠ q')
    (fp : F' p = none) (fq : F' q' = none) (rq : R q' = none) (ft : ∀ a ps, F' a ≠ some (.tbl ps)) (dis : ∀ a, R a ≠ none → F' a = none) : NS c π F' R H' σ ρ i p q' xs' ys' := by
  refine ⟨n.pl, ne, n.rp, rq, ⟨n.w.len, fh, fun a u e => ?_, fun a h => ?_, fun j x e => ?_, fun j k a hne h1 => ?_, n.w.io, n.w.pin, ⟨t, ft, fun a ps e => ?_, fun a f e => ?_⟩⟩⟩
  · by_cases z2 : a = q'
    · subst z2; rw [R2L_q] at e; cases e; exact hq
    · by_cases z1 : a = p
      · subst z1; rw [R2L_p ne] at e; cases e; exact hp
      · rw [R2L_ne z1 z2] at e; exact rs _ _ e
  · by_cases z2 : a = q'
    · subst z2; exact fq
    · by_cases z1 : a = p
      · subst z1; exact fp
      · rw [R2L_ne z1 z2] at h; exact dis a h
  · have z := n.w.slot j x e
    have f := fr j
    cases x with
    | un => trivial
    | val d => obtain ⟨v, a, b⟩ := z; exact ⟨v, a, b.mono s⟩
    | own d => rw [e] at f; cases f
    | io d => rw [e] at f; cases f
    | thk r => obtain ⟨v, a, b⟩ := z; exact ⟨v, a, c.Gm _ _ _ _ s b⟩
  · rw [fr j] at h1; cases h1
  · by_cases z2 : a = q'
    · subst z2; rw [R2L_q] at e; cases e
    · by_cases z1 : a = p
      · subst z1; rw [R2L_p ne] at e; cases e
      · rw [R2L_ne z1 z2] at e; exact n.rt ps e
  · by_cases z2 : a = q'
    · subst z2; rw [R2L_q] at e; cases e
    · by_cases z1 : a = p
      · subst z1; rw [R2L_p ne] at e; cases e
      · rw [R2L_ne z1 z2] at e; exact n.rx f e
theorem Reps.app2 {F : Hp} : ∀ {xs ys : List V} {ds es : List D}, Reps c F xs ds → Reps c F ys es → Reps c F (xs ++ ys) (ds ++ es)
  | _, _, _, _, .nil, h => h
  | _, _, _, _, .cons a b, h => .cons a (Reps.app2 b h)
/-- without the two lists aside -/
theorem NS.base (n : NS c π F R H σ ρ i p q xs ys) (fr : Free ρ) : Wf c π F R H σ ρ :=
  n.w.setR n.rs (fun a h => n.rd h) (fun j a h => by rw [fr j] at h; cases h) (fun a ps => n.rt ps) (fun a f => n.rx f)
theorem NS.fixq (n : NS c π F R H σ ρ i p q xs ys) (fr : Free ρ) : Wf c π (upd F q (.lst ys)) R H σ ρ :=
  (n.base fr).fixed n.hq (fun _ => nofun) n.fq n.rq (fun j h => by rw [fr j] at h; cases h)
/-- at the end: the last item is fixed, the list is the slot's own -/
theorem NS.done (n : NS c π F R H σ ρ i p q xs ys) (fr : Free ρ) (hu : ρ[i]? = some .un) (r1 : Reps c F xs ds) (r2 : Reps c F ys l) : Wf c π (upd F q (.lst ys)) R H σ (ρ.set i (.own (.lst (ds ++ [.lst l])))) := by
  have s1 : Same F (upd F q (.lst ys)) := same_upd n.fq
  have f1 : upd F q (HO.lst ys) p = none := (upd_ne n.ne).trans n.fp
  have := (n.fixq fr).fill (i := i) (v := .ref p) (x := .own (.lst (ds ++ [.lst l]))) (List.getElem?_eq_some_iff.mp hu).1 hu ⟨p, rfl, f1, n.rp, _, n.hp, Reps.app2 (r1.mono s1) (.cons (.lst upd_same (r2.mono s1)) .nil)⟩ (fun _ => nofun) (fun _ _ _ _ j h => by rw [fr j] at h; cases h)
  rwa [self_set n.pl] at this
/-- name = [[]] -/
theorem NS.start (w : Wf c π F R H σ ρ) (fr : Free ρ) (hu : ρ[i]? = some .un) (hq : H q = none) (hp : upd H q (.lst []) p = none) : NS c π F R (upd (upd H q (.lst [])) p (.lst [.ref q])) (σ.set i (some (.ref p))) ρ i p q [] [] := by
  have ne : p ≠ q := fun z => by subst z; rw [upd_same] at hp; cases hp
  have hp' : H p = none := by rwa [upd_ne ne] at hp
  have hi : i < ρ.length := (List.getElem?_eq_some_iff.mp hu).1
  have w1 := w.grow (Grow.junk (o := .lst []) w.fh hq)
  have w2 := w1.grow (Grow.junk (o := .lst [.ref q]) w1.fh hp)
  have fn : ∀ a, H a = none → F a = none := fun a h => by
    cases e : F a with
    | none => rfl
    | some u => rw [w.fh _ _ e] at h; cases h
  have rn : ∀ a, H a = none → R a = none := fun a h => by
    cases e : R a with
    | none => rfl
    | some u => rw [w.rh _ _ e] at h; cases h
  have w3 : Wf c π F (R2L R p q [] []) (upd (upd H q (.lst [])) p (.lst [.ref q])) σ ρ := by
    refine w2.setR (fun a u e => ?_) (fun a h => ?_) (fun j a h => by rw [fr j] at h; cases h) (fun a ps e => ?_) (fun a f e => ?_)
    · by_cases z2 : a = q
      · subst z2; rw [R2L_q] at e; cases e; exact (upd_ne (Ne.symm ne)).trans upd_same
      · by_cases z1 : a = p
        · subst z1; rw [R2L_p ne] at e; cases e; exact upd_same
        · rw [R2L_ne z1 z2] at e; exact w2.rh _ _ e
    · by_cases z2 : a = q
      · subst z2; exact fn _ hq
      · by_cases z1 : a = p
        · subst z1; exact fn _ hp'
        · rw [R2L_ne z1 z2] at h; exact w.dis a h
    · by_cases z2 : a = q
      · subst z2; rw [R2L_q] at e; cases e
      · by_cases z1 : a = p
        · subst z1; rw [R2L_p ne] at e; cases e
        · rw [R2L_ne z1 z2] at e; exact w.tb.r _ ps e
    · by_cases z2 : a = q
      · subst z2; rw [R2L_q] at e; cases e
      · by_cases z1 : a = p
        · subst z1; rw [R2L_p ne] at e; cases e
        · rw [R2L_ne z1 z2] at e; exact w.tb.rx _ f e
  have w4 := w3.drop (i := i) (fun d e => by rw [hu] at e; cases e) (some (.ref p))
  rw [self_set hu] at w4
  refine ⟨?_, ne, rn _ hp', rn _ hq, w4⟩
  rw [List.getElem?_set_self (by rw [w.len]; exact hi)]
/-- name.append([]) -/
theorem NS.push (n : NS c π F R H σ ρ i p q xs ys) (fr : Free ρ) (hq' : H q' = none) : NS c π (upd F q (.lst ys)) R (upd (upd H q' (.lst [])) p (.lst ((xs ++ [.ref q]) ++ [.ref q']))) σ ρ i p q' (xs ++ [.ref q]) [] := by
  have nq : q' ≠ q := fun z => by subst z; rw [n.hq] at hq'; cases hq'
  have np : p ≠ q' := fun z => by subst z; rw [n.hp] at hq'; cases hq'
  have s1 : Same F (upd F q (.lst ys)) := same_upd n.fq
  have fq' : F q' = none := by
    cases e : F q' with
    | none => rfl
    | some u => rw [n.w.fh _ _ e] at hq'; cases hq'
  have rq' : R q' = none := by
    cases e : R q' with
    | none => rfl
    | some u => rw [n.rs _ _ e] at hq'; cases hq'
  have other : ∀ a u, a ≠ p → H a = some u → upd (upd H q' (.lst [])) p (.lst ((xs ++ [.ref q]) ++ [.ref q'])) a = some u := fun a u h1 e => by
    have h2 : a ≠ q' := fun z => by subst z; rw [hq'] at e; cases e
    rw [upd_ne h1, upd_ne h2]; exact e
  refine n.to fr s1 (fun a u e => ?_) ?_ (fun a u e => other a u (fun z => by subst z; rw [n.rp] at e; cases e) (n.rs _ _ e)) upd_same ((upd_ne (Ne.symm np)).trans upd_same) np ((upd_ne n.ne).trans n.fp) ((upd_ne nq).trans fq') rq' (fun a ps e => ?_) (fun a h => ?_)
  · by_cases z : a = q
    · subst z; rw [upd_same] at e; cases e; exact other _ _ (Ne.symm n.ne) n.hq
    · rw [upd_ne z] at e; exact other _ _ (fun z => by subst z; rw [n.fp] at e; cases e) (n.w.fh _ _ e)
  · exact tabs_mut (tabs_same n.w.tb.tabs (same_upd hq')) ((upd_ne np).trans n.hp) (fun _ => nofun) (fun _ => nofun)
  · by_cases z : a = q
    · subst z; rw [upd_same] at e; cases e
    · rw [upd_ne z] at e; exact n.w.tb.f a ps e
  · by_cases z : a = q
    · subst z; exact absurd n.rq h
    · rw [upd_ne z]; exact n.rd h
end
end Kd
/-! ## x = [[]]; for .. in ..: if ..: raise ..; if ..: x.append([]) else: x[-1].append(..) -/
namespace Kd
open PySem PySem.Spec PyProof.Rows L2 Kq StX ClX LamX
end Kd
/-! ## the statements of such a block; its plain rule -/
namespace Kd
open PySem PySem.Spec PyProof.Rows L2 Kq StX ClX LamX
/-! ### plain -/
end Kd
/-! ## text.split(sep) as a new list -/
namespace Kd
open PySem PySem.Spec PyProof.Rows L2 Kq StX ClX LamX
end Kd
/-! ## defs that call themselves: by how deep they may go; where none is left, nothing is promised -/
namespace Kd
open PySem PySem.Spec PyProof.Rows L2 Kq StX ClX LamX
end Kd
/-! ## [..] * number -/
namespace Kd
open PySem PySem.Spec PyProof.Rows L2 Kq StX ClX LamX
end Kd
/-! ## an own variable handed back as new; one new thing or another; *xs of what one has -/
namespace Kd
open PySem PySem.Spec PyProof.Rows L2 Kq StX ClX LamX
/-! ### stars -/
end Kd
/-! ## a, b, c = x, new, new (a lambda may read one of them) -/
namespace Kd
open PySem PySem.Spec PyProof.Rows L2 Kq StX ClX LamX
/-! ### plain -/
end Kd
/-! ## repr of a text -/
namespace Kd
open PySem PySem.Spec PyProof.Rows L2 Kq StX ClX LamX
end Kd
/-! ## an own operator in place that hands its receiver back; x = p; x += y; return len(x) -/
namespace Kd
open PySem PySem.Spec PyProof.Rows L2 Kq StX ClX LamX
end Kd
namespace Kd
open PySem PySem.Spec PyProof.Rows L2 Kq StX ClX LamX
end Kd
/-! ## a, b = new, y where the names may be captured -/
namespace Kd
open PySem PySem.Spec PyProof.Rows L2 Kq StX ClX LamX
end Kd
/-! ## the plain side of an own operator in place -/
namespace Kd
open PySem PySem.Spec PyProof.Rows L2 Kq StX ClX LamX
end Kd
/-! ## an error out of a list comprehension -/
namespace Kd
open PySem PySem.Spec PyProof.Rows L2 Kq StX ClX LamX
end Kd
/-! ## name = [elt for .. in ..] whose element may let an error out -/
namespace Kd
open PySem PySem.Spec PyProof.Rows L2 Kq StX ClX LamX
end Kd
namespace Kd
open PySem PySem.Spec PyProof.Rows L2 Kq StX ClX LamX
end Kd
namespace Kd
open PySem PySem.Spec PyProof.Rows L2 Kq StX ClX LamX
end Kd
/-! ## a block that fixes no more than its slots hold: what became fixed within it can be had again -/
namespace Kd
open PySem PySem.Spec PyProof.Rows L2 Kq StX ClX LamX
variable {c : Cn}
mutual
/-- nothing within may be d0 -/
def farR (d0 : D) : D → Bool
  | .lst ds => !(sim d0 (.lst ds)) && farRs d0 ds
  | .tup ds => farRs d0 ds
  | .dct ks ds => !(sim d0 (.dct ks ds)) && farRs d0 ds
  | .ins n ks ds => !(sim d0 (.ins n ks ds)) && farRs d0 ds
  | .exc _ _ ds => farRs d0 ds
  | .scr _ => decide (kindD d0 = 2)
  | _ => true
def farRs (d0 : D) : List D → Bool
  | [] => true
  | d :: ds => farR d0 d && farRs d0 ds
end
/-- whatever a fixed thing turns out to be: it is not far from bd -/
def Min (c : Cn) (F0 : Hp) (bd : List D) : Prop := ∀ p o F1 d0, F0 p = some o → Same F0 F1 → Rep c F1 (.ref p) d0 → kindD d0 < 3 → farRs d0 bd = false
section
variable {A B F F0 F1 : Hp} {p : Addr} {o : HO} {bd bd' : List D}
theorem Min.nil : Min c (fun _ => none) bd := fun p o F1 d0 e => nomatch e
def one (p : Addr) (o : HO) : Hp := fun q => if q = p then some o else none
end
/-! ### the frame -/
end Kd
/-! ## statements of such a block: x[0].m(..) of a thing that became fixed within it; a list that one picked out is had -/
namespace Kd
open PySem PySem.Spec PyProof.Rows L2 Kq StX ClX LamX
/-! ### the block -/
end Kd
/-! ## for x in [new, new, ..]: each is had in its turn -/
namespace Kd
open PySem PySem.Spec PyProof.Rows L2 Kq StX ClX LamX
variable {c : Cn}
abbrev Hl := List ((Addr × HO) × D)
def heldR (l : Hl) (R : Hp) : Hp := fun p => match (l.map (·.1)).lookup p with
  | some o => some o
  | none => R p
structure Hs (c : Cn) (π : List (Nat × Addr)) (F R H : Hp) (σ : L2.St) (ρ : En) (l : Hl) : Prop where
  w : Wf c π F (heldR l R) H σ ρ
  ow : ∀ x ∈ l, Own c F R H x.1.1 x.2
  nd : (l.map (·.1.1)).Nodup
section
variable {π : List (Nat × Addr)} {F F' R H H' : Hp} {σ σ' : L2.St} {ρ ρ' : En} {l : Hl} {p q : Addr} {o : HO} {d : D}
theorem held_cons (hn : p ∉ l.map (·.1.1)) : heldR (((p, o), d) :: l) R = upd (heldR l R) p o := funext fun q => by
  unfold heldR
  show (match List.lookup q ((p, o) :: l.map (·.1)) with | some o => some o | none => R q) = _
  rw [List.lookup_cons]
  by_cases z : q = p
  · subst z; rw [upd_same]; simp
  · have : (q == p) = false := beq_false_of_ne z
    rw [this, upd_ne z]
theorem heldR_at {x : (Addr × HO) × D} : ∀ {l : Hl}, (l.map (·.1.1)).Nodup → x ∈ l → heldR l R x.1.1 = some x.1.2
  | [], _, h => by cases h
  | ((a, u), e) :: l, nd, h => by
    have nd' := List.nodup_cons.mp nd
    rw [held_cons nd'.1]
    rcases List.mem_cons.mp h with z | z
    · subst z; exact upd_same
    · have : x.1.1 ≠ a := fun y => nd'.1 (y ▸ List.mem_map_of_mem (f := (·.1.1)) z)
      rw [upd_ne this]
      exact heldR_at nd'.2 z
/-- behind something that kept what is held -/
theorem Hs.keep (h : Hs c π F R H σ ρ l) (w' : Wf c π F' (heldR l R) H' σ' ρ') (s : Same F F') : Hs c π F' R H' σ' ρ' l := ⟨w', fun x hx => by
  have e := heldR_at (R := R) h.nd hx
  refine (h.ow x hx).mono s (w'.dis _ (by rw [e]; exact nofun)) ?_
  rw [w'.rh _ _ e, h.w.rh _ _ e], h.nd⟩
end
end Kd
/-! ## plain laws: framed blocks, loops over new things -/
namespace Kd
open PySem PyProof.Rows Kq
end Kd
/-! ## != of lists whose items run defs of their own -/
namespace JNe
open PySem PySem.Spec PyProof.Rows JEq
open AutoSeq1 (wpAny_loadPart')
open MeetsSeq MeetsSeq2 MeetsSeq3 SeqRoads2 SeqAt
end JNe
namespace Kd
open PySem PySem.Spec PyProof.Rows L2 Kq StX ClX LamX JEq JNe SeqAt
/-! ### plain -/
end Kd
/-! Runs in step: what sleeps and is never woken may be anything. -/
namespace Kd
open PySem GenW
open Sem (wp)
/-- a sleeper that cannot go on -/
def Stuck (x : GenState) : Prop := ∃ l c p fs cl, x = .suspended (fun _ => .unsupported "") l c p fs cl
def CleanG : GenState → Prop
  | .suspended _ _ _ _ fs _ => splitAtGen fs = none
  | _ => True
def CleanE : End → Prop
  | .ret _ => True
  | .susp _ _ _ _ _ _ fs => splitAtGen fs = none
theorem CleanE.gen {e : End} (h : CleanE e) : CleanG e.genState := by
  cases e <;> first | trivial | exact h
def Twin (x y : GenState) : Prop := (y = x ∧ CleanG x) ∨ (Stuck x ∧ y.seen = x.seen ∧ y.bare = x.bare)
theorem Twin.seen {x y : GenState} (h : Twin x y) : y.seen = x.seen := by
  rcases h with ⟨k, _⟩ | ⟨_, k, _⟩
  · rw [k]
  · exact k
theorem Twin.bare {x y : GenState} (h : Twin x y) : y.bare = x.bare := by
  rcases h with ⟨k, _⟩ | ⟨_, _, k⟩
  · rw [k]
  · exact k
structure Twins (gs hs : Array GenState) : Prop where
  sz : hs.size = gs.size
  at' : ∀ (i : Nat) (x : GenState), gs[i]? = some x → ∃ y, hs[i]? = some y ∧ Twin x y
/-- what sleeps stuck stays -/
def StickG (gs hs gs' hs' : Array GenState) : Prop := ∀ (i : Nat) (x : GenState), gs[i]? = some x → Stuck x → gs'[i]? = some x ∧ hs'[i]? = hs[i]?
theorem StickG.trans {gs hs gs' hs' gs'' hs'' : Array GenState} (a : StickG gs hs gs' hs') (b : StickG gs' hs' gs'' hs'') : StickG gs hs gs'' hs'' := fun i x h k => by
  obtain ⟨h1, h2⟩ := a i x h k
  obtain ⟨h3, h4⟩ := b i x h1 k
  exact ⟨h3, h4.trans h2⟩
theorem set_at? {gs : Array GenState} {g i : Nat} {x y : GenState} (h : (gs.setIfInBounds g x)[i]? = some y) : (i = g ∧ y = x) ∨ (i ≠ g ∧ gs[i]? = some y) := by
  by_cases z : i = g
  · subst z
    by_cases hi : i < gs.size
    · left; refine ⟨rfl, ?_⟩
      have q : (gs.setIfInBounds i x)[i]? = some x := by simp [hi]
      rw [q] at h; exact (Option.some.inj h).symm
    · rw [Array.getElem?_eq_none (by rw [Array.size_setIfInBounds]; omega)] at h; cases h
  · exact .inr ⟨z, by rw [Array.getElem?_setIfInBounds_ne (Ne.symm z)] at h; exact h⟩
theorem Twins.set {gs hs : Array GenState} (h : Twins gs hs) (g : Nat) {x : GenState} (c : CleanG x) : Twins (gs.setIfInBounds g x) (hs.setIfInBounds g x) where
  sz := by rw [Array.size_setIfInBounds, Array.size_setIfInBounds, h.sz]
  at' := fun i y hy => by
    rcases set_at? hy with ⟨rfl, rfl⟩ | ⟨hn, hy⟩
    · have hi : i < gs.size := by
        have := (Array.getElem?_eq_some_iff.mp hy).1
        rwa [Array.size_setIfInBounds] at this
      exact ⟨y, by simp [h.sz, hi], .inl ⟨rfl, c⟩⟩
    · obtain ⟨z, h1, h2⟩ := h.at' i y hy
      exact ⟨z, by rw [Array.getElem?_setIfInBounds_ne (Ne.symm hn)]; exact h1, h2⟩
theorem StickG.set {gs hs : Array GenState} {g : Nat} {x y : GenState} (hg : gs[g]? = some y) (hy : ¬ Stuck y) : StickG gs hs (gs.setIfInBounds g x) (hs.setIfInBounds g x) := fun i z hz k => by
  have hn : i ≠ g := by rintro rfl; rw [hg] at hz; cases hz; exact hy k
  rw [Array.getElem?_setIfInBounds_ne (Ne.symm hn), Array.getElem?_setIfInBounds_ne (Ne.symm hn)]
  exact ⟨hz, rfl⟩
theorem Twins.push {gs hs : Array GenState} (h : Twins gs hs) {x : GenState} (c : CleanG x) : Twins (gs.push x) (hs.push x) where
  sz := by rw [Array.size_push, Array.size_push, h.sz]
  at' := fun i y hy => by
    rw [Array.getElem?_push] at hy ⊢
    rw [h.sz]
    split at hy
    · cases hy; rename_i e; rw [if_pos e]; exact ⟨_, rfl, .inl ⟨rfl, c⟩⟩
    · rename_i e; rw [if_neg e]; exact h.at' i y hy
theorem StickG.push {gs hs : Array GenState} (h : Twins gs hs) (x : GenState) : StickG gs hs (gs.push x) (hs.push x) := fun i z hz _ => by
  have hi := (Array.getElem?_eq_some_iff.mp hz).1
  rw [Array.getElem?_push, Array.getElem?_push, h.sz, if_neg (Nat.ne_of_lt hi), if_neg (Nat.ne_of_lt hi)]
  exact ⟨hz, rfl⟩
/-- what a text asks of the state behind it, with other sleepers -/
def LQ {α : Type} (s : Shared) (hs : Array GenState) (Q : α → Pos → Shared → Prop) (a : α) (p : Pos) (s2 : Shared) : Prop :=
  ∃ s' hs', s2 = { s' with gens := hs' } ∧ Twins s'.gens hs' ∧ StickG s.gens hs s'.gens hs' ∧ Q a p s'
theorem LQ.pre {α : Type} {s s1 : Shared} {hs hs1 : Array GenState} {Q : α → Pos → Shared → Prop} {a : α} {p : Pos} {s2 : Shared} (h : LQ s1 hs1 Q a p s2) (k : StickG s.gens hs s1.gens hs1) : LQ s hs Q a p s2 := by
  obtain ⟨s', hs', e, t, st, q⟩ := h
  exact ⟨s', hs', e, t, k.trans st, q⟩
end Kd
/-! ## one turn of a generator -/
namespace Kd
open PySem PySem.Spec PyProof.Rows L2 GenW
open Sem (wp)
/-- from here it runs to its next end -/
def OSeg (M : Model) (A : Around) (Φ : End → Shared → Prop) (cd : Code) (t : Sem PySem.Fin) (fs : List Frame) (s : Shared) : Prop :=
  ∀ Γ p, Γ.code = cd → Γ.Woken A → ∃ e s2, Runs M Γ p t fs s e s2 ∧ Φ e s2
section
variable {M : Model} {A : Around} {Φ Ψ : End → Shared → Prop} {cd : Code} {fs : List Frame} {s : Shared} {α β γ : Type}
theorem OSeg.imp {t : Sem PySem.Fin} (h : OSeg M A Φ cd t fs s) (i : ∀ e s, Φ e s → Ψ e s) : OSeg M A Ψ cd t fs s := fun Γ p hc hw =>
  let ⟨e, s2, r, k⟩ := h Γ p hc hw
  ⟨e, s2, r, i _ _ k⟩
end
end Kd
/-! ## a loop that hands out -/
namespace Kd
open PySem PySem.Spec PyProof.Rows L2 GenW
open Sem (wp)
end Kd
/-! ## a sleeper's things, and its context at a wake -/
namespace Kd
open PySem PySem.Spec PyProof.Rows L2 GenW Kq
variable {c : Cn}
def upFrom (n m : Nat) : List Addr := (List.range m).filter (fun b => decide (n ≤ b))
theorem mem_upFrom {n m b : Nat} : b ∈ upFrom n m ↔ b < m ∧ n ≤ b := by
  unfold upFrom
  simp [List.mem_filter]
structure Aft (c : Cn) (P : Program) (w : World) (outer : List Env) (n : Nat) (cp : List (Addr × Obj)) (s : Shared) (H F R : Hp) (s' : Shared) (H' F' : Hp) : Prop where
  os : s'.os = s.os
  bare : AllBare s'.gens
  un : Un (frs outer) (upFrom n s.heap.objs.size) H H' s.heap s'.heap
  hok : HOk P w H' s'.heap
  sm : Same F F'
  wf : Wf c [] F' R H' [] []
  cp : ∀ p ∈ cp, s'.heap.get? p.1 = some p.2 ∧ H' p.1 = none
/-- the frame's names, as they stand in its object -/
def LocAt (env : Env) (N : List Str) (σ : L2.St) (od : Obj) : Prop :=
  ∃ m, (∀ h : Heap, h.get? env.locals = some od → h.Ns env.locals m) ∧ ∀ (i : Nat) (x : Str) (v : V), N[i]? = some x → σ[i]? = some (some v) → Vis env.scope x → ∃ u, RelV v u ∧ env.kindOf x = some .local ∧ m x = some u
theorem LocAt.of {X : Cx} {pins : List (Addr × Obj)} {σ : L2.St} {H : Hp} {s : Shared} (I : Inv X pins σ H s) (nc : ∀ y ∈ X.env.scope.names, y.2 ≠ .cell ∧ y.2 ≠ .free) : ∃ od, s.heap.get? X.env.locals = some od ∧ (∀ v, od.data ≠ .cell v) ∧ LocAt X.env X.N σ od := by
  obtain ⟨m, ⟨o, es, ep, e1, e2, r⟩, hl⟩ := I.loc
  refine ⟨o, e1, fun v z => ?_, m, fun h eh => ⟨o, es, ep, eh, e2, r⟩, fun i x v a b k => ?_⟩
  · rw [e2] at z; cases z
  · obtain ⟨u, r1, r2⟩ := hl i x v a b k
    rcases r2 with r2 | ⟨r2, _⟩
    · exact ⟨u, r1, r2⟩
    · have no : ∀ q, X.env.scope.names.lookup x = some q → q ≠ .cell ∧ q ≠ .free := fun q hq => nc (x, q) (PySem.mem_of_lookup hq)
      rcases r2 with r2 | r2
      · exact absurd rfl (no _ r2).1
      · exact absurd rfl (no _ r2).2
end Kd
/-! ## for x in rows: yield e, by its turns -/
namespace Kd
open PySem PySem.Spec PyProof.Rows L2 GenW Kq
end Kd
/-! ## a generator def's promise -/
namespace Kd
open PySem PySem.Spec PyProof.Rows L2 GenW Kq
variable {c : Cn}
section
variable {P : Program} {w : World} {K : PySem.W.Frag} {mg : Str → Option Value} {base : Heap} {k : Nat} {outer : List Env} {n : Nat} {go : Addr × Obj} {cp : List (Addr × Obj)} {s s1 s2 : Shared} {H H1 H2 F F1 F2 R : Hp} {ds : List D}
theorem Aft.trans (a : Aft c P w outer n cp s H F R s1 H1 F1) (b : Aft c P w outer n cp s1 H1 F1 R s2 H2 F2) : Aft c P w outer n cp s H F R s2 H2 F2 := by
  have low : ∀ q o, s.heap.get? q = some o → q ∉ upFrom n s.heap.objs.size → q ∉ upFrom n s1.heap.objs.size := fun q o e h z => h (mem_upFrom.mpr ⟨Heap.lt_size e, (mem_upFrom.mp z).2⟩)
  refine ⟨b.os.trans a.os, b.bare, ⟨fun q o e h1 h2 h3 => ?_, fun q o e h1 h2 h3 => ?_, fun q o e h1 h2 => ?_, fun q o e h1 => ?_, fun q xs e => b.un.tups q xs (a.un.tups q xs e), fun q o u e => b.un.frzs q o u (a.un.frzs q o u e), fun q ps e => ?_⟩, b.hok, a.sm.trans b.sm, b.wf, b.cp⟩
  · exact b.un.keep q o (a.un.keep q o e h1 h2 h3) (a.un.free q o e h1 h3) h2 (low q o e h3)
  · obtain ⟨sl, e1⟩ := a.un.slot q o e h1 h2 h3
    obtain ⟨sl2, e2⟩ := b.un.slot q _ e1 (a.un.free q o e h1 h3) h2 (low q o e h3)
    exact ⟨sl2, e2⟩
  · obtain ⟨o1, e1⟩ := a.un.there q o e h2
    exact b.un.free q o1 e1 (a.un.free q o e h1 h2) (low q o e h2)
  · obtain ⟨o1, e1⟩ := a.un.there q o e h1
    exact b.un.there q o1 e1 (low q o e h1)
  · obtain ⟨m1, e1⟩ := a.un.tbls q ps e
    obtain ⟨m2, e2⟩ := b.un.tbls q _ e1
    exact ⟨m1 ++ m2, by rw [← Array.append_assoc]; exact e2⟩
end
end Kd
/-! ## a generator is made -/
namespace Kd
open PySem PySem.Spec PyProof.Rows L2 GenW Kq
end Kd
/-! ## a turn, as its consumer sees it -/
namespace Kd
open PySem PySem.Spec PyProof.Rows L2 GenW Kq
end Kd
/-! ## a turn amid a text of one's own -/
namespace Kd
open PySem PySem.Spec PyProof.Rows L2 GenW Kq
end Kd
/-! ## for x in a generator -/
namespace Kd
open PySem PySem.Spec PyProof.Rows L2 GenW Kq
variable {c : Cn}
theorem _root_.L2.Inv.gens {X : Cx} {pins : List (Addr × Obj)} {σ : L2.St} {H : Hp} {s : Shared} {hs : Array GenState} (I : Inv X pins σ H s) (h : AllBare hs) : Inv X pins σ H { s with gens := hs } := ⟨I.ok, I.os, h, I.base, I.loc, I.cell, I.free, I.freeC, I.pin, I.hok, I.len⟩
end Kd
/-! ## [elt for x in a generator if ..] -/
namespace Kd
open PySem PySem.Spec PyProof.Rows L2 GenW Kq
end Kd
/-! ## list(a generator) -/
namespace Kd
open PySem PySem.Spec PyProof.Rows L2 GenW Kq
end Kd
/-! ## sorted(..) of whole numbers, texts, tuples of these, nested -/
namespace Kd
open PySem PySem.Spec PyProof.Rows L2 Kq StX ClX LamX
open PySem.W (EachIs dataLe AllAlike Sortable alike)
variable {c : Cn}
mutual
def py : D → PyData
  | .int i => .int i
  | .str x => .str x
  | .tup ds => .tuple (pys ds)
  | _ => .none
def pys : List D → List PyData
  | [] => []
  | d :: ds => py d :: pys ds
end
def flatB (ks : List PyData) : Bool := ks.all fun k => decide (k.depth ≤ 60)
end Kd
/-! ## sorted(rows, key=lambda row: (len(row), row)) -/
namespace Kd
open PySem PySem.Spec PyProof.Rows L2 Kq StX ClX LamX
open PySem.W (EachIs dataLe AllAlike Sortable alike KeyPure)
end Kd
/-! ## something new out of what is lent by content -/
namespace Kd
open PySem PySem.Spec PyProof.Rows L2 Kq StX ClX LamX
end Kd
/-! ## sorted(..) of a tuple of texts -/
namespace PyProof.Rows
open PySem
end PyProof.Rows
namespace Kd
open PySem PySem.Spec PyProof.Rows L2 Kq StX ClX LamX
end Kd
/-! ## a tuple (plain data) in a list of tuples -/
namespace Kd
open PySem PySem.Spec PyProof.Rows L2 Kq StX ClX LamX SeqAt
end Kd
/-! ## truth by an own __bool__; classes without an own __init__; keywords turned about -/
namespace Kd
open PySem PySem.Spec PyProof.Rows L2 Kq StX ClX LamX
variable {c : Cn}
/-! ### plain -/
/-! ### C() of a class without an own __init__ -/
/-! ### f(b = x, a = y): all keywords, turned about -/
section
variable {H : Hp} {vs : List V} {Fs : Fn} {Q : VK} {E : XK}
theorem vals_app : ∀ {xs ys : List V} {us ws : List Value}, Vals xs us → Vals ys ws → Vals (xs ++ ys) (us ++ ws)
  | _, _, _, _, .nil, h => h
  | _, _, _, _, .cons a b, h => .cons a (vals_app b h)
theorem vals_rev : ∀ {vs : List V} {us : List Value}, Vals vs us → Vals vs.reverse us.reverse
  | _, _, .nil => .nil
  | _, _, .cons a b => by
    rw [List.reverse_cons, List.reverse_cons]
    exact vals_app (vals_rev b) (.cons a .nil)
end
/-! ### plain -/
/-! ### a tuple not in a list of tuples; is, is not of bools -/
end Kd
/-! ## dict(list of pairs), no key twice -/
namespace Kd
open PySem PySem.Spec PyProof.Rows L2 Kq StX ClX LamX
end Kd
/-! ## xs[::k] for any k above nought -/
namespace Kd
open PySem PySem.Spec PyProof.Rows L2 Kq StX ClX LamX
end Kd
/-! ## own errors made by keywords -/
namespace PySem
namespace ErrX
open PySem.W PySem.Calls PyProof.Rows PySem.HandSPX
section
variable {M : Model} {A : Around} {E : Value → Shared → Prop} {h : Heap} {g : Array GenState} {d : Drawn} {t : Nat} {os : OsState}
variable {nm q : Str} {C N : Addr} {bs bm bmB : List Value} {hdct : Bool} {sn : List Str} {sub : List Value} {ab : Bool} {col : Option Bool} {dd : Option Addr} {k0 k1 k2 k3 k5 : Option Value} {B newId initId : String}
theorem check_newK (F : ExcBaseFacts B newId initId bmB) (hT : ∀ X : String, bm.contains (.type X) = bmB.contains (.type X)) {kw : List (Str × Value)} {Q : Unit → Shared → Prop}
    (hC : h.get? C = some (excClassObj nm q C N bs bm hdct sn sub ab col dd k0 k1 k2 k3 k5 newId)) (hq : Q () ⟨h, g, d, t, os⟩) : wpAny M A (checkBuiltinCall newId ⟨[.ref C], kw⟩) Q E ⟨h, g, d, t, os⟩ := by
  have hcont : (Value.ref C :: bm).contains (.type B) = true := by rw [List.contains_cons, hT, F.hasB, Bool.or_true]
  have hstar := F.noStar
  simp only [checkBuiltinCall, F.newKind, F.newSplit, F.newRow]
  repeat (first | refine wpAny_loadPart_at hC ?_ | (refine wpAny_isSubtype_exc hC ?_; rw [hcont]) | refine wpAny_staticBase_exc hC ?_ | refine wpAny_madeBy_exc hC ?_ | simp only [bne_self_eq_false, Bool.false_eq_true, if_false] | wp_step)
  exact hq
end
section
variable {prog : Program} {w : World} {A : Around} {E : Value → Shared → Prop} {R : Result → Shared → Prop} {h : Heap} {g : Array GenState} {d : Drawn} {t : Nat} {os : OsState}
variable {nm q : Str} {C N : Addr} {bs bm bmB : List Value} {hdct : Bool} {sn : List Str} {sub : List Value} {ab : Bool} {col : Option Bool} {dd : Option Addr} {k0 k1 k2 k3 k5 : Option Value} {B newId initId : String}
theorem newK (F : ExcBaseFacts B newId initId bmB) (hT : ∀ X : String, bm.contains (.type X) = bmB.contains (.type X)) {kw : List (Str × Value)}
    (hC : h.get? C = some (excClassObj nm q C N bs bm hdct sn sub ab col dd k0 k1 k2 k3 k5 newId))
    (hq : R (.ok (.ret (.ref (h.objs.size + 1)))) ⟨(h.push { cls := .type "tuple", data := .seq #[] }).push
      { cls := .ref C, data := .fields #[.ref h.objs.size, .none, .none, .none, .bool false, .none] }, g, d, t, os⟩) :
    codeAny (model prog w) A (.builtin newId ⟨[.ref C], kw⟩) R ⟨h, g, d, t, os⟩ := by
  have hrest : ([] : List Value).length ≤ sizeLine := Nat.zero_le _
  have hends := F.ends
  have hcB : (Value.ref C :: bm).contains (.type B) = true := by rw [List.contains_cons, hT, F.hasB, Bool.or_true]
  have hcA : (Value.ref C :: bm).contains (.type "AttributeError") = false := by rw [List.contains_cons, hT, F.noAttr]; rfl
  have hcN : (Value.ref C :: bm).contains (.type "NameError") = false := by rw [List.contains_cons, hT, F.noName]; rfl
  refine codeAny_builtinAt F.entry ?_
  unfold Builtin.«BaseException.__new__»
  refine wpAt_bind ?_
  show wpAt _ _ _ (stack >>= _) _ _ _
  refine wpAt_bind (wpAt_stack fun p below => wpAt_of_wpAny ?_)
  wp_walk
  refine wpAt_of_wpAny ?_
  rw [F.owner]
  repeat (first | with_reducible refine wpAny_madeHere_exc F.canon hC ?_ | with_reducible refine wpAny_loadPart_at hC ?_ | (with_reducible refine wpAny_isSubtype_exc hC ?_; first | rw [hcB] | rw [hcA] | rw [hcN]) | wp_step)
  show R _ _
  rw [Heap.size_push]
  exact hq
theorem type_callK (F : ExcBaseFacts B newId initId bmB) (hT : ∀ X : String, bm.contains (.type X) = bmB.contains (.type X)) {kw : List (Str × Value)} {fI : Addr} {Q : Fin → Shared → Prop}
    (hC : h.get? C = some (excClassObj nm q C N bs bm hdct sn sub ab col dd k0 k1 k2 k3 k5 newId))
    (hi : W.Looks (model prog w) h (typeLookup (.ref C) "__init__") (some (.ref fI))) (hb : ∀ self, W.Looks (model prog w) h (bindSpecial (.ref fI) self) (.ref fI, [self]))
    (hq : codeAny (model prog w) A (.call (.ref fI) ⟨[.ref (h.objs.size + 1)], kw⟩)
      (fun r s' => match r with | .ok (.ret v) => v = .none ∧ Q (.done (.ret (.ref (h.objs.size + 1)))) s' | .ok _ => False | .error e => E e s')
      ⟨(h.push (W.kdv_tup [])).push (excO C h.objs.size), g, d, t, os⟩) :
    wpAny (model prog w) A (Builtin.«type.__call__» ⟨[.ref C], kw⟩) Q E ⟨h, g, d, t, os⟩ := by
  repeat (first | with_reducible refine wpAny_loadPart_at hC ?_ | with_reducible refine wpAny_madeBy_exc hC ?_ | wp_step)
  refine codeAny_call_builtin_code (Code.quiet_builtin _ F.quiet) (check_newK F hT hC ?_)
  refine newK F hT hC ?_
  show wpAny _ _ _ _ _ _
  have k : ∀ b o, h.get? b = some o → ((h.push (W.kdv_tup [])).push (excO C h.objs.size)).get? b = some o := fun b o e => Heap.get?_push_of_some _ (Heap.get?_push_of_some _ e)
  have hC₁ := k _ _ hC
  have hget : ((h.push (W.kdv_tup [])).push (excO C h.objs.size)).get? (h.objs.size + 1) = some (excO C h.objs.size) := by heap_get
  have hcC : (Value.ref C :: bm).contains (.ref C) = true := by simp
  have i1 := hi.keeps k
  have b1 := (hb (.ref (h.objs.size + 1))).keeps k
  unfold isInstance
  repeat (first | with_reducible refine wpAny_loadPart_at hget ?_ | (with_reducible refine wpAny_isSubtype_exc hC₁ ?_; rw [hcC]) | wp_step)
  show wpAny _ _ (typeLookup (.ref C) _) _ _ _
  refine i1.at ?_
  refine wpAny_holding (wpAny_bind (b1.at ?_))
  refine wpAny_bind (wpAny_call (codeAny_mono hq fun r s' z => ?_))
  rcases r with e | (v | _ | _ | _) <;> first | exact z | exact z.elim | skip
  obtain ⟨rfl, z⟩ := z
  first
    | exact wpAny_pure (wpAny_pure z)
    | (wp_walk; exact z)
theorem callK (F : ExcBaseFacts B newId initId bmB) (hT : ∀ X : String, bm.contains (.type X) = bmB.contains (.type X)) {kw : List (Str × Value)} {fI : Addr}
    (hC : h.get? C = some (excClassObj nm q C N bs bm hdct sn sub ab col dd k0 k1 k2 k3 k5 newId))
    (hi : W.Looks (model prog w) h (typeLookup (.ref C) "__init__") (some (.ref fI))) (hb : ∀ self, W.Looks (model prog w) h (bindSpecial (.ref fI) self) (.ref fI, [self]))
    (hq : codeAny (model prog w) (A.under (.builtin "type.__call__" ⟨[.ref C], kw⟩)) (.call (.ref fI) ⟨[.ref (h.objs.size + 1)], kw⟩) (W.InitBack (h.objs.size + 1) R)
      ⟨(h.push (W.kdv_tup [])).push (excO C h.objs.size), g, d, t, os⟩) :
    codeAny (model prog w) A (.call (.ref C) ⟨[], kw⟩) R ⟨h, g, d, t, os⟩ := by
  have f1 := tc_lookup
  have f2 := tc_bind (.ref C)
  have hTy : (⟨h, g, d, t, os⟩ : Shared).TypeIs (.ref C) "type" := ⟨_, hC, rfl⟩
  refine codeAny_of_tree ?_
  show wpAny _ _ (callAny (.ref C) _) _ _ _
  repeat (any_goals (first | assumption | with_reducible refine wpAny_loadPart_at hC ?_ | wp_step))
  refine ⟨rfl, ?_⟩
  refine codeAny_call_builtin_at (Code.quiet_builtin _ (by decide +kernel)) entry_typeCall (wpAny_check_type_call_sub hC (type_callK F hT hC hi hb ?_))
  refine codeAny_mono hq fun r s' z => ?_
  rcases r with e | (v | _ | _ | _) <;> exact z
end
end ErrX
end PySem
namespace PySem
namespace ErrX
open PySem.W PySem.Calls PyProof.Rows PySem.HandSPX
section
variable {prog : Program} {w : World} {A : Around} {E : Value → Shared → Prop} {s : Shared} {K : Frag} {mg : Str → Option Value} {C fI cc cda : Addr}
/-- what the __init__ at fI does of a fresh error, called with ar of it -/
def InitA (prog : Program) (w : World) (K : Frag) (mg : Str → Option Value) (C fI : Addr) (ar : Addr → Args) (m : Str → Option Value) : Prop :=
  ∀ (A : Around) (R : Result → Shared → Prop) (s : Shared) (x t0 : Addr) (mb : Str → Option Value), K.In s.heap → s.heap.NoLimit → s.heap.Ns mainGlobals mg → s.heap.Ns builtinsNs mb → mb "super" = some (.type "super") → s.heap.get? x = some (excO C t0) → K.lookup x = none → A.depth < recursionLimit →
    (∀ h' tk dx t1, InitEnd s.heap h' x C dx t1 m → R (.ok (.ret .none)) { s with heap := h', toks := tk }) → codeAny (model prog w) A (.call (.ref fI) (ar x)) R s
theorem err_madeK {R : Result → Shared → Prop} {qual : Str} {scope : Scope} {fd : FuncData} (T : Err prog K C fI cc cda qual scope fd) {kw : List (Str × Value)} {m mb : Str → Option Value} (hI : InitA prog w K mg C fI (fun y => ⟨[.ref y], kw⟩) m) (X : K.In s.heap) (hlim : s.heap.NoLimit) (G : s.heap.Ns mainGlobals mg) (B : s.heap.Ns builtinsNs mb) (hb : mb "super" = some (.type "super")) (hroom : A.depth + 1 < recursionLimit)
    (hq : ∀ h' tk e d, OwnMade s.heap h' e C d m → R (.ok (.ret (.ref e))) { s with heap := h', toks := tk }) :
    codeAny (model prog w) A (.call (.ref C) ⟨[], kw⟩) R s := by
  obtain ⟨nm, q, N, bs, bm, sn, sub, ab, col, dd, k0, k1, k2, k3, k5, hC, hbm, hal⟩ := T.cls
  obtain ⟨hp, g, dr, tk, os⟩ := s
  have k : ∀ b o, hp.get? b = some o → ((hp.push (kdv_tup [])).push (excO C hp.objs.size)).get? b = some o := fun b o e => Heap.get?_push_of_some _ (Heap.get?_push_of_some _ e)
  have hget : ((hp.push (kdv_tup [])).push (excO C hp.objs.size)).get? (hp.objs.size + 1) = some (excO C hp.objs.size) := by heap_get
  have hnx : K.lookup (hp.objs.size + 1) = none := by
    cases e : K.lookup (hp.objs.size + 1) with
    | none => rfl
    | some o =>
      have z : hp.get? (hp.objs.size + 1) = some o := X _ _ e
      exact absurd (Nat.lt_of_succ_lt (Heap.lt_size z)) (Nat.lt_irrefl _)
  refine callK F.excBase_ValueError (fun X => refsVE_contains X bm hbm) (X _ _ hC) (looks_findIn X T.iC) (fun self => bind_fn X self T.tC) ?_
  refine hI _ _ ⟨(hp.push (kdv_tup [])).push (excO C hp.objs.size), g, dr, tk, os⟩ (hp.objs.size + 1) hp.objs.size mb (X.keeps k) (hlim.keeps k) (G.keeps k) (B.keeps k) hb hget hnx ?_ fun h' tk' dx t1 ⟨k', hx, dn, dne, hns⟩ => ?_
  · show A.depth + 1 < recursionLimit
    exact hroom
  · have old : ∀ b o, hp.get? b = some o → h'.get? b = some o := fun b o e => k' b o (Nat.ne_of_lt (Nat.lt_succ_of_lt (Heap.lt_size e))) (k b o e)
    have z : hp.objs.size + 1 + 1 ≤ dx := by
      first
        | (simpa only [Heap.size_push] using dn)
        | exact dn
        | (have q := dn; rw [Heap.size_push, Heap.size_push] at q; exact q)
    exact ⟨rfl, hq h' tk' (hp.objs.size + 1) dx ⟨old, Nat.le_succ _, ⟨_, hx⟩, Nat.le_trans (Nat.le_trans (Nat.le_succ _) (Nat.le_succ _)) z, dne, hns⟩⟩
end
end ErrX
end PySem
namespace Kq
open PySem PySem.Spec PyProof.Rows L2
theorem vals_rev : ∀ {vs : List V} {us : List Value}, Vals vs us → Vals vs.reverse us.reverse
  | _, _, .nil => .nil
  | v :: vs, u :: us, .cons a b => by
    rw [List.reverse_cons, List.reverse_cons]
    have ih := vals_rev b
    generalize vs.reverse = x at ih
    generalize us.reverse = y at ih
    clear b
    induction ih with
    | nil => exact .cons a .nil
    | cons p _ ih => exact .cons p ih
/-- an own error, made by all of its names, the last one first -/
structure ErrN (P : Program) (w : World) (K : PySem.W.Frag) (mg : Str → Option Value) (x : Str) (C : Addr) (ks : List Str) : Prop where
  gC : mg x = some (.ref C)
  ex : ∃ fI cc cda qual scope fd, ErrX.Err P K C fI cc cda qual scope fd ∧ ∀ vs us, Vals vs us → vs.length = ks.length → ∃ m, ErrX.InitA P w K mg C fI (fun y => ⟨[.ref y], ks.reverse.zip us.reverse⟩) m ∧ ∀ f, RelO ((ks.zip vs).lookup f) (m f)
/-- an own error without fields -/
structure Err0 (K : PySem.W.Frag) (mg : Str → Option Value) (x : Str) (C : Addr) : Prop where
  gC : mg x = some (.ref C)
  ex : PySem.W.excIn K C [.type "ValueError", .type "Exception", .type "BaseException", .type "object"] "ValueError.__new__" = true
  kC : PySem.W.keepIn K (.ref C) = true
  exC : PySem.W.subIn K (.ref C) (.type "BaseException") = some true
  tyC : PySem.W.typeIn K (.ref C) = some (.type "type")
section
variable {X : Cx} {C : Addr} {pins : List (Addr × Obj)} {σ : L2.St} {H1 : Hp}
theorem gone_of {h : Heap} {e : Addr} (n : h.objs.size ≤ e) : h.get? e = none := by
  cases q : h.get? e with
  | none => rfl
  | some o => exact absurd (Nat.lt_of_lt_of_le (Heap.lt_size q) n) (Nat.lt_irrefl _)
theorem err_inv {hp h' : Heap} {g : Array GenState} {dr : Drawn} {tk tk' : Nat} {os : OsState} {e d : Addr} {m : Str → Option Value} {fs : List (Str × V)} (I1 : Inv X pins σ H1 ⟨hp, g, dr, tk, os⟩) (hex : X.ex = []) (M : ErrX.OwnMade hp h' e C d m) (hrel : ∀ f, RelO (fs.lookup f) (m f)) :
    H1 d = none ∧ upd H1 d (.xd fs) e = none ∧ Inv X pins σ (upd (upd H1 d (.xd fs)) e (ExD (.ref C) (some d) e)) ⟨h', g, dr, tk', os⟩ := by
  obtain ⟨t1, hoe⟩ := M.obj
  have ob : ObjOk X.prog X.w (upd H1 d (.xd fs)) h' d (.xd fs) := ⟨_, M.ns, hrel⟩
  have J : Inv X pins σ (upd H1 d (.xd fs)) ⟨h', g, dr, tk', os⟩ := I1.laid (t' := tk') M.keep M.dbig ob
  have na : upd H1 d (.xd fs) e = none := by
    rw [upd_ne (Ne.symm M.dne)]
    exact I1.hok.fresh M.new
  have aI : (⟨hp, g, dr, tk, os⟩ : Shared).heap.get? e = none := gone_of M.new
  refine ⟨I1.hok.fresh M.dbig, na, Inv.tracked J hoe ⟨rfl, rfl⟩ rfl na (fun z => ?_) (fresh0 hex I1 aI) fun p hp' z => ?_⟩
  · have h1 := I1.lt
    rw [← z] at h1
    exact Nat.lt_irrefl _ (Nat.lt_of_lt_of_le h1 M.new)
  · have y := (I1.pin p hp').1
    rw [z, aI] at y
    cases y
/-- C(e, ..) as a value -/
theorem pe_err {x : Str} {n : Nat} {fl : List V → List (Str × V)} {a : Expr} {es : List Expr} {ta : TA} {p pos : Pos} {k : Nat} (T : ErrK X.prog X.w X.K X.mg x C n fl) (hr : Room k X.A) (hex : X.ex = []) (ha : PA X (a :: es) ta) (hg : Gl X x := by rfl) (hdb : (x == ("__debug__" : Str)) = false := by decide)
    (he : starEach (a :: es) X.env = (false, eval a X.env) :: starEach es X.env := by rfl) (hpl : (backTo pos (starEach es X.env)).any (·.1) = false := by rfl) :
    PE X (.Call (.Name x p) (a :: es) [] pos) (fun σ H Q => ta σ H fun vs H1 => vs.length = n ∧ ∀ d e, H1 d = none → upd H1 d (.xd (fl vs)) e = none → Q (.ref e) (upd (upd H1 d (.xd (fl vs))) e (ExD (.ref C) (some d) e))) := by
  refine ⟨fun pins s σ H Q I h => ?_⟩
  obtain ⟨fI, cc, cda, qual, scope, fd, E, hI⟩ := T.ex
  refine wpAny_Call_Name_kw (ld_glob I hg T.gC ?_ hdb)
  refine PySem.W.callWith_K (h₀ := X.base) I.ok.mod.kin E.kC (thn (ha.run pos pins s σ H _ I h) fun us s1 hh => ?_) he hpl
  obtain ⟨vs, H1, I1, r1, hn, q1⟩ := hh
  refine ⟨I1.kIn, ?_⟩
  obtain ⟨m, hm, hrel⟩ := hI vs us r1 hn
  show wpAny _ _ (call (.ref C) us) _ _ _
  have hlim := I1.nolimit
  have hl : us.length ≤ sizeLine := by
    have := T.small
    rw [← Paired.length r1, hn, sizeLine_eq]
    omega
  obtain ⟨mb, hb1, hb2⟩ := I1.mod.blt
  have G := I1.mod.glob.keeps I1.bk
  have B := hb1.keeps I1.bk
  obtain ⟨hp, g, dr, tk, os⟩ := s1
  refine wpAny_call (ErrX.err_made E hm hl I1.kIn hlim G B ((hb2 _ (by decide)).trans (by first | rfl | kernel_rfl)) (by have := hr.dp; omega) fun h' tk' e d M => ?_)
  obtain ⟨n1, n2, J⟩ := err_inv (tk' := tk') I1 hex M hrel
  exact ⟨.ref e, _, J, rfl, q1 d e n1 n2⟩
/-- C(k = e, ..) as a value, the last name first -/
theorem pe_errK {x : Str} {ks : List Str} {kws : List Keyword} {t : TA} {p pos : Pos} {k : Nat} (T : ErrN X.prog X.w X.K X.mg x C ks) (hr : Room k X.A) (hex : X.ex = []) (ha : PK X kws t) (hg : Gl X x := by rfl) (hdb : (x == ("__debug__" : Str)) = false := by decide)
    (hall : (backToKw pos (keywordEach kws X.env)).all (·.1.isSome) = true := by rfl) (hks : (backToKw pos (keywordEach kws X.env)).filterMap (·.1) = ks.reverse := by rfl) (hpl : ((backTo pos (starEach [] X.env)).any (·.1) || (backToKw pos (keywordEach kws X.env)).any (·.1.isNone)) = false := by rfl) :
    PE X (.Call (.Name x p) [] kws pos) (fun σ H Q => t σ H fun vs H1 => vs.length = ks.length ∧ ∀ d e, H1 d = none → upd H1 d (.xd (ks.zip vs.reverse)) e = none → Q (.ref e) (upd (upd H1 d (.xd (ks.zip vs.reverse))) e (ExD (.ref C) (some d) e))) := by
  refine ⟨fun pins s σ H Q I h => ?_⟩
  obtain ⟨fI, cc, cda, qual, scope, fd, E, hI⟩ := T.ex
  refine wpAny_Call_Name_kw (ld_glob I hg T.gC ?_ hdb)
  refine PySem.W.callWith_of hpl (PySem.W.keeps_K E.kC) (evalArgs_kw2_nil hall (thn (ha.run pos pins s σ H _ I h) fun us s1 ⟨vs, H1, I1, r1, hn, q1⟩ => ⟨I1.kIn, ?_⟩))
  rw [hks]
  obtain ⟨m, hm, hrel⟩ := hI vs.reverse us.reverse (vals_rev r1) (by rw [List.length_reverse]; exact hn)
  rw [List.reverse_reverse] at hm
  show wpAny _ _ (call (.ref C) [] (ks.reverse.zip us)) _ _ _
  have hlim := I1.nolimit
  obtain ⟨mb, hb1, hb2⟩ := I1.mod.blt
  have G := I1.mod.glob.keeps I1.bk
  have B := hb1.keeps I1.bk
  obtain ⟨hp, g, dr, tk, os⟩ := s1
  refine wpAny_call (ErrX.err_madeK E hm I1.kIn hlim G B ((hb2 _ (by decide)).trans (by first | rfl | kernel_rfl)) (by have := hr.dp; omega) fun h' tk' e d M => ?_)
  obtain ⟨n1, n2, J⟩ := err_inv (tk' := tk') I1 hex M hrel
  exact ⟨.ref e, _, J, rfl, q1 d e n1 n2⟩
/-- C(), to be raised -/
theorem pmk_err0 {x : Str} {p pos : Pos} (T : Err0 X.K X.mg x C) (hg : Gl X x := by rfl) (hdb : (x == ("__debug__" : Str)) = false := by decide) : PMk X (.Call (.Name x p) [] [] pos) (fun _ H Q => Q (.ref C) none H) := by
  intro pins s σ H Q I h
  refine wpAny_Call_Name_kw (ld_glob I hg T.gC ?_ hdb)
  refine PySem.W.callWith_K0 I.kIn T.kC ?_
  show wpAny _ _ (call (.ref C) []) _ _ _
  obtain ⟨bm, N, nm, qn, bs, hdct, sn, sub, ab, col, dd, k0, k1, k2, k3, k5, mN, hC, hN, hni, T'⟩ := exc_obj I.kIn T.ex
  refine wpAny_call_exc_subT F.excBase_ValueError T' hC hN hni (fun h' e hm => ?_) (Nat.zero_le _)
  exact mk_of I hm (raises_own T.exC T.tyC) h (I.hok.gone hm.new)
/-- C() as a value -/
theorem pe_err0 {x : Str} {p pos : Pos} (T : Err0 X.K X.mg x C) (hg : Gl X x := by rfl) (hdb : (x == ("__debug__" : Str)) = false := by decide) : PE X (.Call (.Name x p) [] [] pos) (fun _ H Q => ∀ a, H a = none → Q (.ref a) (upd H a (ExD (.ref C) none a))) := by
  refine ⟨fun pins s σ H Q I h => ?_⟩
  refine wpAny_Call_Name_kw (ld_glob I hg T.gC ?_ hdb)
  refine PySem.W.callWith_K0 I.kIn T.kC ?_
  show wpAny _ _ (call (.ref C) []) _ _ _
  obtain ⟨bm, N, nm, qn, bs, hdct, sn, sub, ab, col, dd, k0, k1, k2, k3, k5, mN, hC, hN, hni, T'⟩ := exc_obj I.kIn T.ex
  refine wpAny_call_exc_subT F.excBase_ValueError T' hC hN hni (fun h' a hm => ?_) (Nat.zero_le _)
  have hn : H a = none := I.hok.gone hm.new
  obtain ⟨t, ht, _, _⟩ := hm.there
  exact ⟨.ref a, upd H a (ExD (.ref C) none a), I.laidN hm.keeps hm.new hn (exD_ok ht ⟨rfl, rfl⟩ rfl), rfl, h a hn⟩
end
end Kq
namespace Kd
open PySem PySem.Spec PyProof.Rows L2 Kq StX ClX LamX
variable {c : Cn}
def mkX (x : Str) (ks : List Str) (fa : En → Out (List D)) : En → Out D := fun ρ => (fa ρ).bind fun ds ρ1 => if ds.length = ks.length then .ok (.exc x ks ds) ρ1 else .no
def revA (fa : En → Out (List D)) : En → Out (List D) := fun ρ => (fa ρ).bind fun ds ρ1 => .ok ds.reverse ρ1
structure GErN (c : Cn) (P : Program) (w : World) (K : PySem.W.Frag) (mg : Str → Option Value) (x : Str) (ks : List Str) : Prop where
  ex : ∃ C, ErrN P w K mg x C ks ∧ c.mg = mg ∧ x ∈ c.xs
structure GEr0 (c : Cn) (K : PySem.W.Frag) (mg : Str → Option Value) (x : Str) : Prop where
  ex : ∃ C, Err0 K mg x C ∧ c.mg = mg ∧ x ∈ c.xs
section
variable {X : Cx} {W : WX} {k : Nat} {x : Str} {ks : List Str} {e : Expr} {es : List Expr} {kws : List Keyword} {fs : En → Out (List D)} {np pos pos2 : Pos} {nm : Option Str} {kpos : Pos} {fe : En → Out D} {gs : En → Out (List D)}
theorem upd2_grow {F H : Hp} {d a : Addr} {o u : HO} (fh : Same F H) (nd : H d = none) (na : upd H d o a = none) (h1 : ∀ ps, o ≠ .tbl ps) (h2 : ∀ ps, u ≠ .tbl ps) : Grow F H (upd (upd F d o) a u) (upd (upd H d o) a u) := by
  have g1 := Grow.alloc (o := o) fh nd h1
  have g2 := Grow.alloc (o := u) g1.fh na h2
  exact g1.trans g2
theorem de_mkXP (G : GEr c X.prog X.w X.K X.mg x ks) (hr : Room k X.A) (hex : X.ex = []) (ha : DA c X W (e :: es) fs) (hg : Gl X x := by rfl) (hdb : (x == ("__debug__" : Str)) = false := by decide)
    (he : starEach (e :: es) X.env = (false, eval e X.env) :: starEach es X.env := by rfl) (hpl : (backTo pos (starEach es X.env)).any (·.1) = false := by rfl) :
    DE c X W (.Call (.Name x np) (e :: es) [] pos) (mkX x ks fs) := by
  obtain ⟨C, T, hm, hx⟩ := G.ex
  refine (pe_err T hr hex ha hg hdb he hpl).imp fun σ H Q => ?_
  rintro ⟨π, F, R, ρ, w, h⟩
  refine tX.mk w (Post.bind h) fun vs ds ρ1 F1 H1 _ s1 w1 ra k1 => ?_
  by_cases hl : ds.length = ks.length
  · rw [if_pos hl] at k1
    have hv : vs.length = ks.length := ra.length.trans hl
    refine ⟨hv, fun d a nd na => ?_⟩
    have g := upd2_grow (o := .xd (ks.zip vs)) (u := ExD (.ref C) (some d) a) w1.fh nd na nofun (fun ps z => by unfold ExD at z; cases z)
    refine k1 _ _ g.f (w1.grow g) _ (.exc hx (by rw [hm]; exact T.gC) upd_same (d := some d) (fs := ks.zip vs) ?_ (zip_map1 hv) (by rw [zip_map2 hv]; exact ra.mono g.f))
    show upd (upd F1 d _) a _ d = _
    have ne : d ≠ a := fun z => by rw [← z, upd_same] at na; cases na
    rw [upd_ne ne, upd_same]
  · rw [if_neg hl] at k1; exact k1.elim
abbrev DKs (c : Cn) (X : Cx) (W : WX) (kws : List Keyword) (g : En → Out (List D)) : Prop := PK X kws (tAs c W g)
theorem dks_nil : DKs c X W [] nilS := pk_nil.imp fun σ H Q => by
  rintro ⟨π, F, R, ρ, w, h⟩
  exact h F H (.refl _) w _ .nil
theorem dks_cons (he : DE c X W e fe) (hr : DKs c X W kws gs) : DKs c X W (⟨nm, e, kpos⟩ :: kws) (consS fe gs) := (pk_cons he hr).imp fun σ H Q => by
  rintro ⟨π, F, R, ρ, w, h⟩
  unfold tCons
  refine tX.mk w (Post.bind h) fun x d ρ1 F1 H1 _ s1 w1 ra k1 => ?_
  refine tX.mk w1 (Post.bind k1) fun xs ds ρ2 F2 H2 _ s2 w2 rs k2 => ?_
  exact k2 F2 H2 (.refl _) w2 _ (.cons (ra.mono s2) rs)
theorem de_mkXK (G : GErN c X.prog X.w X.K X.mg x ks) (hr : Room k X.A) (hex : X.ex = []) (ha : DKs c X W kws fs) (hg : Gl X x := by rfl) (hdb : (x == ("__debug__" : Str)) = false := by decide)
    (hall : (backToKw pos (keywordEach kws X.env)).all (·.1.isSome) = true := by rfl) (hks : (backToKw pos (keywordEach kws X.env)).filterMap (·.1) = ks.reverse := by rfl) (hpl : ((backTo pos (starEach [] X.env)).any (·.1) || (backToKw pos (keywordEach kws X.env)).any (·.1.isNone)) = false := by rfl) :
    DE c X W (.Call (.Name x np) [] kws pos) (mkX x ks (revA fs)) := by
  obtain ⟨C, T, hm, hx⟩ := G.ex
  refine (pe_errK T hr hex ha hg hdb hall hks hpl).imp fun σ H Q => ?_
  rintro ⟨π, F, R, ρ, w, h⟩
  refine tX.mk w (Post.bind (Post.bind h)) fun vs ds ρ1 F1 H1 _ s1 w1 ra k1 => ?_
  have k1 : Post c W π F1 R σ (if ds.reverse.length = ks.length then Out.ok (D.exc x ks ds.reverse) ρ1 else Out.no) _ := k1 F1 H1 (.refl _) w1
  by_cases hl : ds.reverse.length = ks.length
  · rw [if_pos hl] at k1
    have hv : vs.length = ks.length := by rw [List.length_reverse] at hl; exact ra.length.trans hl
    have hv2 : vs.reverse.length = ks.length := by rw [List.length_reverse]; exact hv
    refine ⟨hv, fun d a nd na => ?_⟩
    have g := upd2_grow (o := .xd (ks.zip vs.reverse)) (u := ExD (.ref C) (some d) a) w1.fh nd na nofun (fun ps z => by unfold ExD at z; cases z)
    refine k1 _ _ g.f (w1.grow g) _ (.exc hx (by rw [hm]; exact T.gC) upd_same (d := some d) (fs := ks.zip vs.reverse) ?_ (zip_map1 hv2) (by rw [zip_map2 hv2]; exact (Reps.rev ra).mono g.f))
    show upd (upd F1 d _) a _ d = _
    have ne : d ≠ a := fun z => by rw [← z, upd_same] at na; cases na
    rw [upd_ne ne, upd_same]
  · rw [if_neg hl] at k1; exact k1.elim
theorem de_mk0P (G : GEr0 c X.K X.mg x) (hg : Gl X x := by rfl) (hdb : (x == ("__debug__" : Str)) = false := by decide) : DE c X W (.Call (.Name x np) [] [] pos) (con (.exc x [] [])) := by
  obtain ⟨C, T, hm, hx⟩ := G.ex
  refine (pe_err0 T hg hdb).imp fun σ H Q => ?_
  rintro ⟨π, F, R, ρ, w, h⟩ a na
  have g := Grow.alloc (o := ExD (.ref C) none a) w.fh na (fun ps z => by unfold ExD at z; cases z)
  exact h _ _ g.f (w.grow g) _ (.exc (d := none) (fs := []) hx (by rw [hm]; exact T.gC) upd_same rfl rfl .nil)
theorem ds_raise0P (G : GEr0 c X.K X.mg x) (hc : X.calm = true) (tk : Takes X W) (hg : Gl X x := by rfl) (hdb : (x == ("__debug__" : Str)) = false := by decide) :
    DS c X W (.Raise (some (.Call (.Name x np) [] [] pos)) none pos2) (raiseS x [] nilS) := by
  obtain ⟨C, T, hm, hx⟩ := G.ex
  refine (ps_raise hc tk (pmk_err0 T hg hdb)).imp fun D σ H => ?_
  rintro ⟨π, F, R, ρ, w, h⟩
  have h : ∀ σ, ExcTo c W π F R σ x [] [] ρ := h
  exact h σ C none F H hx (by rw [hm]; exact T.gC) (.refl _) w (.inl ⟨rfl, rfl, rfl⟩)
end
end Kd
namespace Kd
open PySem PySem.Spec PyProof.Rows L2 Kq StX ClX LamX
end Kd
/-! ## try: body, except C as n: return e -/
namespace Kq
open PySem PySem.Spec PyProof.Rows L2
section
variable {X : Cx} {pins : List (Addr × Obj)} {σ : L2.St} {H : Hp} {s : Shared}
theorem Inv.suiteT {a : Addr} (I : Inv X pins σ H s) : Inv (X.suite a (X.pn ++ pins)) [] σ H s :=
  ⟨I.ok.suite _ _, I.os, I.bare, I.base, I.loc, I.cell, I.free, I.freeC, fun p hp => I.pin p (by rw [List.append_nil] at hp; exact hp), I.hok, I.len⟩
theorem Inv.unsuiteT {a : Addr} {pn' : List (Addr × Obj)} (I : Inv (X.suite a (X.pn ++ pins)) pn' σ H s) (ok : X.Ok) : Inv X pins σ H s :=
  ⟨ok, I.os, I.bare, I.base, I.loc, I.cell, I.free, I.freeC, fun p hp => I.pin p (List.mem_append_left _ hp), I.hok, I.len⟩
end
/-- what the clause wishes of an error of the body: it is told of from now on, and the suite returns -/
def wRet (K : PySem.W.Frag) (c : Value) (i : Nat) (ts : Addr → Value → Option Addr → TS) (Wout : WX) (D : Ends) : WX := fun cls d σ H =>
  ∃ b, PySem.W.exmOne K cls c = some b ∧ (b = true → ∀ a, H a = none → ts a cls d { nx := fun _ _ => False, rt := D.rt, bk := fun _ _ => False, ct := fun _ _ => False } (σ.set i (some (.ref a))) (upd H a (ExD cls d a))) ∧
    (b = false → Wout cls d σ H)
section
variable {X : Cx} {x n : Str} {c : Value} {i : Nat} {body suite : List Stmt} {b₀ : Stmt} {np pos pos' : Pos} {tb : WX → TS} {ts : Addr → Value → Option Addr → TS} {Wout : WX}
theorem ps_try_ret (hex : X.ex = []) (hs : X.stack = X.env :: X.outer) (hf : X.env.frame = some X.env.locals) (hN : X.N.Nodup) (hi : X.N[i]? = some n) (hln : X.env.kindOf n = some .local) (hc : Names X x c) (tk : Takes X Wout)
    (hb : ∀ (W : WX) (pn : List (Addr × Obj)) (xe : Value → Shared → Prop), Takes (X.tr pn xe) W → PassesOwn (model X.prog X.w) X.A X.env xe → PSs (X.tr pn xe) body (tb W))
    (hsu : ∀ (a : Addr) (cls : Value) (d : Option Addr) (pn : List (Addr × Obj)), PSs (X.suite a pn) (b₀ :: suite) (ts a cls d)) :
    PS X (.Try body [.ExceptHandler (some (.Name x np)) (some n) (b₀ :: suite) pos'] [] [] pos) (fun D σ H => tb (wRet X.K c i ts Wout D) D σ H) := by
  refine ⟨fun pins s σ H D I h => ?_⟩
  have ok := I.ok
  have hfr : X.A.frames = some (X.env :: X.outer) := by rw [ok.frames, hs]
  have hloc : Loc X.env.scope n := .inl hln
  refine wpAny_Try_except ?_
  refine wpAny_mono ((hb (wRet X.K c i ts Wout D) (X.pn ++ pins) (fun e s₁ => wpAny (model X.prog X.w) X.A (noteFrame e X.env) (fun _ s₂ => wpAny (model X.prog X.w) X.A (setFlight e none) (fun _ s₃ =>
    wpAny (model X.prog X.w) X.A (handleBy e X.env [.ExceptHandler (some (.Name x np)) (some n) (b₀ :: suite) pos']) (SP X pins D) X.xe s₃) X.xe s₂) X.xe s₁) (fun u s' xx => ?_) PassesOwn.looking).run [] s σ H D (I.toTry _) h) (fun f s1 hsp => ?_) (fun e s1 he => he)
  · -- the catch
    obtain ⟨a, B, sI, pins', σ', H', cls, d, rfl, J', nb, up, sky, na, os, ag, b, hb1, hyes, hno⟩ := xx
    have J : Inv X pins σ' H' sI := J'.ofTry ok
    have sky' : Sky B (X.env :: X.outer) a (Zc cls d) X.env.locals s'.heap := by rw [← hs]; exact sky
    show wpAny (model X.prog X.w) X.A (noteFrame (.ref a) X.env) _ _ _
    refine Sky.land Zc.steady hfr hf sky' fun h3 fl3 up3 => ?_
    have J3 : Inv X pins σ' H' { s' with heap := h3 } := J.landed nb fl3.1 (up.trans up3) os ag
    obtain ⟨oe3, vs3, he3, hz3, hd3⟩ := fl3.there
    have notFr : ∀ {h : Heap} {o : Obj} {vs : Array Value}, h.FunFrames B (X.env :: X.outer) → h.get? a = some o → o.data = .fields vs → a ∉ frs (X.env :: X.outer) := fun {h o vs} ff e dd hm => by
      obtain ⟨_, o', e', hnf⟩ := ff.mem hm
      rw [e] at e'; cases e'
      exact hnf _ dd
    have nfr := notFr fl3.2.2.1 he3 hd3
    have nL : a ≠ X.env.locals := fun z => nfr (List.mem_filterMap.mpr ⟨X.env, List.mem_cons_self, by rw [hf, z]⟩)
    have nF : a ∉ X.fs := fun hm => by
      obtain ⟨e, he, q⟩ := List.mem_filterMap.mp hm
      exact nfr (List.mem_filterMap.mpr ⟨e, List.mem_cons_of_mem _ he, q⟩)
    have S3 := J3.suite he3 hd3 na nL nF
    have aI : sI.heap.get? a = none := notIn hs nb (sky_none sky) nfr
    refine wpAny_handleBy_cons (codeAny_handlers_test ?_) (by intro q; cases q)
    have LT : PySem.W.Looks (model X.prog X.w) h3 (typeOf (.ref a)) cls := fun A Q E s k q => wpAny_typeOf_ref (k _ _ he3) (by rw [hz3.1]; exact q)
    have LM := PySem.W.exm_one (M := model X.prog X.w) (J3.kIn) LT hb1
    have test : ∀ {Q : Value → Shared → Prop} {E : Value → Shared → Prop}, Q c { s' with heap := h3 } → wpAny (model X.prog X.w) (X.A.mark (some (.ref a))) (eval (.Name x np) X.env) Q E { s' with heap := h3 } := fun {Q E} q => by
      obtain ⟨hg, hdbg, hm | ⟨hm, hv, hnn⟩⟩ := hc
      · exact ld_glob (X := X.suite a ((a, oe3) :: (X.pn ++ pins))) S3 hg hm q hdbg
      · exact ld_blt (X := X.suite a ((a, oe3) :: (X.pn ++ pins))) S3 hg hm hv q hnn hdbg
    refine test (LM.here ?_)
    cases b with
    | true =>
      refine codeAny_handlers_suite_as ?_
      refine HandSPX.lands_againZ fl3 fun h4 fl4 up4 => ?_
      have J4 : Inv X pins σ' H' { s' with heap := h4 } := J.landed nb fl4.1 ((up.trans up3).trans up4) os ag
      obtain ⟨oe4, vs4, he4, hz4, hd4⟩ := fl4.there
      have T4 := Inv.tracked J4 he4 hz4 hd4 na nL (fresh0 hex J aI) (fun p hp z => by
        have y := (J'.pin p (List.mem_append_left _ hp)).1
        rw [z, aI] at y
        cases y)
      refine store_ok (X := X.suite a (X.pn ++ pins)) (v := .ref a) (Inv.suiteT T4) hN hi hloc rfl (fun s5 S5 => ?_) (.inr hln)
      refine wpAny_mono ((hsu a cls d (X.pn ++ pins)).run [] s5 _ _ _ S5 (hyes rfl a na)) (fun f s6 hsp => ?_) (fun _ _ z => False.elim z)
      cases f with
      | next =>
        obtain ⟨σ6, H6, S6, q6⟩ := hsp
        exact q6.elim
      | brk =>
        obtain ⟨σ6, H6, S6, q6⟩ := hsp
        exact q6.elim
      | cont =>
        obtain ⟨σ6, H6, S6, q6⟩ := hsp
        exact q6.elim
      | ret u =>
        obtain ⟨v6, σ6, H6, S6, r6, q6⟩ := hsp
        exact gone_ok (Inv.unsuiteT S6 ok) hN hi hln fun s7 J7 => ⟨_, _, _, J7, r6, q6⟩
    | false =>
      show wpAny _ X.A (handleBy (.ref a) X.env []) _ _ _
      refine wpAny_handleBy_nil ?_
      obtain ⟨k1, k2, k3, oe, vs, T, oT, ts', he, hz, hd, h1, hr⟩ := id fl3
      unfold PySem.passOn
      refine wpAny_bind (wpAny_field he hd h1 ?_)
      rw [if_neg (show ¬ ((Value.ref T == Value.none) = true) from by simp)]
      have fin : wpAny (model X.prog X.w) X.A (setFlight (.ref a) X.env.frame) (fun _ s4 => wpAny (model X.prog X.w) X.A (throw (.ref a) : Sem Flow) (SP X pins D) X.xe s4) X.xe { s' with heap := h3 } := by
        rw [hf]
        refine HandSPX.setFlight_upZ fl3 fun h4 hh4 up4 => wpAny_throw (tk _ _ ?_)
        exact ⟨a, B, sI, pins, σ', H', cls, d, rfl, J, nb, (up.trans up3).trans up4, .inr (.inr (by rw [hs]; exact hh4)), na, os, ag, hno rfl⟩
      first
        | exact wpAny_bind (wpAny_pure (wpAny_bind fin))
        | exact wpAny_bind fin
  · cases f with
    | next =>
      obtain ⟨σ', H', J', q⟩ := hsp
      exact wpAny_execs_nil ⟨σ', H', J'.ofTry ok, q⟩
    | brk =>
      obtain ⟨σ', H', J', q⟩ := hsp
      exact ⟨σ', H', J'.ofTry ok, q⟩
    | cont =>
      obtain ⟨σ', H', J', q⟩ := hsp
      exact ⟨σ', H', J'.ofTry ok, q⟩
    | ret u =>
      obtain ⟨v, σ', H', J', r, q⟩ := hsp
      exact ⟨v, σ', H', J'.ofTry ok, r, q⟩
end
end Kq
namespace Kd
open PySem PySem.Spec PyProof.Rows L2 Kq StX ClX LamX
variable {c : Cn}
section
variable {X : Cx} {W : WX} {x n : Str} {i : Nat} {body suite : List Stmt} {b₀ : Stmt} {b g : En → SOut} {np pos pos' : Pos}
/-- try: b / except C as n: g, which returns   (n in slot i) -/
def tryR (sub : Str → Bool) (i : Nat) (b g : En → SOut) : En → SOut := fun ρ => match b ρ with
  | .exc m ks ds ρ1 => if sub m = true then (if canSet ρ1 i = true then (match g (ρ1.set i (.val (.exc m ks ds))) with
      | .rt fr d ρ2 => .rt fr d ρ2
      | _ => .no) else .no) else .exc m ks ds ρ1
  | o => o
theorem ds_tryR (i : Nat) {cv : Value} {sub : Str → Bool} (hS : SubOk c X.K cv sub) (hex : X.ex = []) (hs : X.stack = X.env :: X.outer) (hf : X.env.frame = some X.env.locals) (hN : X.N.Nodup) (hi : X.N[i]? = some n) (hln : X.env.kindOf n = some .local) (hc : Names X x cv) (tk : Takes X W)
    (hb : ∀ (W' : WX) (pn : List (Addr × Obj)) (xe : Value → Shared → Prop), Takes (X.tr pn xe) W' → PassesOwn (model X.prog X.w) X.A X.env xe → DSs c (X.tr pn xe) W' body b)
    (hsu : ∀ (a : Addr) (pn : List (Addr × Obj)), DSs c (X.suite a pn) (fun _ _ _ _ => False) (b₀ :: suite) g) :
    DS c X W (.Try body [.ExceptHandler (some (.Name x np)) (some n) (b₀ :: suite) pos'] [] [] pos) (tryR sub i b g) := by
  refine (ps_try_ret (ts := fun a cls d => tS c (fun _ _ _ _ => False) g) (tb := fun W' => tS c W' b) hex hs hf hN hi hln hc tk hb fun a cls d pn => hsu a pn).imp fun D σ H h => ?_
  obtain ⟨π, F, R, ρ, w, h⟩ := h
  refine ⟨π, F, R, ρ, w, ?_⟩
  unfold tryR at h
  cases q : b ρ with
  | nx ρ1 => rw [q] at h; exact h
  | bk ρ1 => rw [q] at h; exact h
  | ct ρ1 => rw [q] at h; exact h
  | rt fr d ρ1 => rw [q] at h; exact h
  | no => rw [q] at h; exact h
  | exc m ks ds ρ1 =>
    rw [q] at h
    intro σ' C a F' H' hm hmg s w' hx
    refine ⟨sub m, hS m C hm hmg, fun hb' p np => ?_, fun hb' => ?_⟩
    · dsimp only at h
      rw [if_pos hb'] at h
      by_cases hk : canSet ρ1 i = true
      case neg => rw [if_neg hk] at h; exact h.elim
      rw [if_pos hk] at h
      obtain ⟨fs, e1, e2, e3⟩ : ∃ fs, XdOk F' a fs ∧ fs.map (·.1) = ks ∧ Reps c F' (fs.map (·.2)) ds := by
        rcases hx with ⟨rfl, rfl, rfl⟩ | ⟨d, fs, rfl, h2, h3, h4⟩
        · exact ⟨[], rfl, rfl, .nil⟩
        · exact ⟨fs, h2, h3, h4⟩
      obtain ⟨i1, i2⟩ := canSet_of hk
      have gr := Grow.alloc (o := ExD (.ref C) a p) w'.fh np (fun ps z => by unfold ExD at z; cases z)
      have w3 := (w'.grow gr).setVal (i := i) (v := .ref p) (d := .exc m ks ds) i1 i2 (.exc hm hmg upd_same (e1.mono gr.f) e2 (e3.mono gr.f))
      refine ⟨π, _, R, _, w3, ?_⟩
      have h := PostS.later h (s.trans gr.f)
      cases q2 : g (ρ1.set i (.val (.exc m ks ds))) with
      | rt fr d ρ2 => rw [q2] at h; exact h
      | nx ρ1 => rw [q2] at h; exact h.elim
      | bk ρ1 => rw [q2] at h; exact h.elim
      | ct ρ1 => rw [q2] at h; exact h.elim
      | exc m2 ks2 ds2 ρ1 => rw [q2] at h; exact h.elim
      | no => rw [q2] at h; exact h.elim
    · dsimp only at h
      rw [hb'] at h
      exact h σ' C a F' H' hm hmg s w' hx
end
section
variable {P : Program} {w : World} {K : PySem.W.Frag} {mg : Str → Option Value} {base : Heap} {f fa : Addr} {fd : FuncData} {N ps : List Str} {x qual : Str} {st : Stmt} {b : En → SOut}
/-- what a def that neither raises nor calls keeps, whatever is handled -/
def FnQ (P : Program) (w : World) (K : PySem.W.Frag) (mg : Str → Option Value) (base : Heap) (f : Addr) (sp : Sp) : Prop :=
  ∀ (A : Around) (out : List Env) (s : Shared) (H : Hp) (us : List Value) (vs : List V) (Q : VK) (E : XK), L2H.RoomH 1 A → Env0 P w K mg base A out s H → Vals vs us → sp vs H Q E →
    codeAny (model P w) A (.call (.ref f) ⟨us, []⟩) (CR (L2.CX P w) out P w H s Q E) s
abbrev cxQ (P : Program) (w : World) (K : PySem.W.Frag) (mg : Str → Option Value) (base : Heap) (N : List Str) (qual : Str) (st : Stmt) (f : Addr) (cdv : Value) (A : Around) (out : List Env) (s : Shared) (H : Hp) (E : XK) (p : Addr × Obj) : Cx := L2H.cxH (L2.CX P w) P w K mg base N qual (defScope st) f cdv A out s H E p
theorem fnQ (T : Fun K x qual st f fd) (S : FnScope N ps (defScope st)) (hbi : Binds K fd ps [])
    (hb : ∀ (cdv : Value) (A : Around) (out : List Env) (s : Shared) (H : Hp) (E : XK) (p : Addr × Obj), DSs c (cxQ P w K mg base N qual st f cdv A out s H E p) (WE E) (defBody st) b) :
    FnQ P w K mg base f (spV c (defF ps.length N.length b)) := by
  obtain ⟨oc, od, kV, doc, pm, an, cdv, ct, osl, efd, lk, hcd⟩ := T.ex
  subst efd
  intro A out s H us vs Q E room env rel asked
  obtain ⟨π, F', R, as, wf, no, hp⟩ := asked
  unfold defF at hp
  by_cases q : as.length = ps.length
  case neg => rw [if_neg q] at hp; exact hp.elim
  rw [if_pos q] at hp
  have nvs : vs.length = ps.length := by have := wf.len; simp at this; omega
  have nus : us.length = ps.length := by rw [← rel.length]; exact nvs
  have lkB := env.mod.kin _ _ lk
  have kin : K.In s.heap := env.mod.kin.keeps fun z o hz => (env.bs z o hz).1
  have bound := hbi s us kin (by simpa using nus)
  rw [List.append_nil] at bound
  obtain ⟨fo, efo, lkF, lkN⟩ : ∃ fo : Obj, fo.data = .func (PySem.W.fnOf x qual (defArgs st) (defBody st) (defScope st) .none kV doc pm an cdv ct) ∧ K.lookup f = some fo ∧ base.get? f = some fo := ⟨_, rfl, lk, lkB⟩
  have away : f ∉ frs out := fun hm => by
    have z := (env.funs.mem hm).1
    rw [lkN] at z
    cases z
  have pinned : L2H.PinOk out H s (f, fo) := ⟨kin _ _ lkF, (env.bs f _ lkN).2, away, fun v z => by
    have z : fo.data = .cell v := z
    rw [efo] at z
    cases z⟩
  have loc : ∀ y ∈ ps.zip us, (defScope st).names.lookup y.1 = some .local ∨ ((defScope st).names.lookup y.1 = some .cell ∧ ((cellsFrom (s.heap.objs.size + 1) (defScope st).names []).lookup y.1).isSome = true) := by
    rintro ⟨y, v⟩ hy
    rcases S.par y (List.of_mem_zip hy).1 with z | z
    · exact .inl z
    · exact .inr ⟨z, PySem.W.cellsFrom_some _ _ _ (.inl z)⟩
  have dpt := L2H.RoomH.depth room
  refine codeAny_call_function dpt (kin _ _ lk) rfl S.co S.gen rfl (PySem.W.codeRec_of kin hcd) (bound _ _ _ _ ?_)
  refine wpAny_newFunctionEnv_cells S.kind loc fun env1 e1 s1 x1 => ?_
  subst e1
  refine ⟨(env.mod.nolimit.keeps fun z o hz => (env.bs z o hz).1).keeps x1.toInCall.keep, codeAny_func ?_⟩
  have J := L2H.inv_startH (CX := L2.CX P w) (E := E) (qual := qual) (cd := cdv) S pinned env nvs rel x1
  have ask := body_k (c := c) (N := N) rfl wf no (by have := congrArg List.length S.pre; rw [List.length_take] at this; omega) hp
  refine wpAny_mono ((hb cdv A out s H E _).run [] s1 (L2.start N vs) H _ J ask) (fun fl s2 got => ?_) fun e s2 got => got
  cases fl with
  | ret u =>
    obtain ⟨v, σ2, H2, J2, rv, got⟩ := got
    exact ⟨v, H2, J2.os, J2.bare, J2.base, J2.hok, rv, got⟩
  | next =>
    obtain ⟨σ2, H2, J2, got⟩ := got
    exact ⟨V.non, H2, J2.os, J2.bare, J2.base, J2.hok, rfl, got⟩
  | brk => obtain ⟨_, _, _, got⟩ := got; exact got.elim
  | cont => obtain ⟨_, _, _, got⟩ := got; exact got.elim
structure GFnQ (c : Cn) (P : Program) (w : World) (K : PySem.W.Frag) (mg : Str → Option Value) (base : Heap) (x : Str) (Fs : Fn) : Prop where
  ex : ∃ a, mg x = some (.ref a) ∧ PySem.W.keepIn K (.ref a) = true ∧ FnQ P w K mg base a (spV c Fs)
theorem roomQ {A : Around} {k : Nat} (hr : Room (k + 1) A) (v : Option Value) : L2H.RoomH 1 (A.mark v) :=
  ⟨by have := hr.dp; show A.depth + 3 * 1 + 5 < _; omega, by have := hr.un; show A.units + 16 * 1 + 200 < _; omega⟩
end
section
variable {X : Cx} {W : WX} {x : Str} {Fs : Fn} {es : List Expr} {np pos : Pos} {g : En → Out (List Ar)}
theorem calD_q {fa : Addr} (Fp : FnQ X.prog X.w X.K X.mg X.base fa (spV c Fs)) (hr : L2H.RoomH 1 X.A) (tk : Takes X W) : CalD c X W (.ref fa) Fs := by
  rintro pins s σ H vs us Q I r ⟨π, F, R, as, w, no, h⟩
  refine wpAny_call (codeAny_mono (Fp X.A X.stack s H us vs Q (fun cls d H' => W cls d σ H') hr I.env0 r ⟨π, F, R, as, w, no, h⟩) fun rs s2 got => ?_)
  rcases rs with e | (v | _ | _ | _)
  · exact tk e s2 (XE.of_call I (fun cls d H' h => h) got)
  all_goals first
    | exact False.elim got
    | exact I.after got
theorem de_callQ (G : GFnQ c X.prog X.w X.K X.mg X.base x Fs) (hr : L2H.RoomH 1 X.A) (tk : Takes X W) (cw : DW_ c X W es pos g) (hg : Gl X x := by rfl) (hdb : (x == ("__debug__" : Str)) = false := by decide) : DE c X W (.Call (.Name x np) es [] pos) (callS Fs g) := by
  obtain ⟨a, h1, h2, h3⟩ := G.ex
  exact de_call (calD_q h3 hr tk) cw h1 h2 hg hdb
end
end Kd
/-! ## the head of errors made by keywords; plain rules of errors as values -/
namespace Kd
open PySem PySem.Spec PyProof.Rows L2 Kq StX ClX LamX
open PySem.W (ksFn ksEnv findIn typeIn keepIn subIn mroIn nsIn codeIn clsIn alongIn)
open PySem.ErrX
section
variable {P : Program} {w : World} {K : PySem.W.Frag} {mg : Str → Option Value} {C fI cc cda : Addr} {x qual par par2 : Str} {st : Stmt} {kV doc pm ct : Value} {an : Option Addr}
theorem errN1 (gC : mg x = some (.ref C)) (nsup : mg "super" = none) (T : Err P K C fI cc cda qual (defScope st) (ksFn "__init__" qual (defArgs st) (defBody st) (defScope st) .none kV doc pm an (.ref cda) ct cc))
    {p0 p1 p2 p3 p4 p5 q1 q2 q3 q4 : Pos} {k3 : Nat} {txt : Str} (hbody : defBody st = [supS p0 p1 p2 p3 p4 p5 k3 txt, PySem.ErrX.asgS par q1 q2 q3 q4]) (hS : ∀ L, SupT (ksEnv qual (defScope st) L fI (.ref cda) cc) p0 p1 p2 p3 p4 p5 k3 txt)
    (hsw : ∀ L, swapsWith (.Name par q3) (some (.Attribute (.Name "self" q1) par q2)) q4.line (ksEnv qual (defScope st) L fI (.ref cda) cc) = pure false)
    (hcd : codeIn K (.ref cda) qual = true) (hpar : (defScope st).names.lookup par = some .local) (hne : par ≠ "self") (hdbg : (par == ("__debug__" : Str)) = false) (hcell : ∀ x ∈ (defScope st).names, x.2 ≠ .cell) (hco : (defScope st).isCoroutine = false) (hgen : (defScope st).isGenerator = false)
    (hno : findIn K (.ref C) par = some none)
    (hbind : ∀ (s : Shared) (u v : Value), BindsTo s (ksFn "__init__" qual (defArgs st) (defBody st) (defScope st) .none kV doc pm an (.ref cda) ct cc) ⟨[u], [(par, v)]⟩ [("self", u), (par, v)]) :
    ErrN P w K mg x C [par] := by
  refine ⟨gC, fI, cc, cda, qual, defScope st, _, T, fun vs us r hl => ?_⟩
  match vs, us, r, hl with
  | [v], [u], .cons r .nil, _ =>
    refine ⟨fun y => if y = par then some u else none, fun A R s y t0 mb X hlim G B hb hx hnx hroom hq => ?_, fun f => ?_⟩
    · exact err_init1 (args := ⟨[.ref y], [(par, u)]⟩) T hbody hS hsw hcd hpar hne hdbg hcell hco hgen hno X hlim G nsup B hb hx hnx hroom (hbind s _ u) hq
    · show RelO (([(par, v)] : List (Str × V)).lookup f) _
      rw [List.lookup_cons]
      by_cases e : f = par
      · subst e
        have q : RelO (some v) (some u) := r; simpa using q
      · have : (f == par) = false := by simpa using e
        rw [this]
        show RelO none (if f = par then some u else none)
        rw [if_neg e]
        trivial
theorem errN2 (gC : mg x = some (.ref C)) (nsup : mg "super" = none) (T : Err P K C fI cc cda qual (defScope st) (ksFn "__init__" qual (defArgs st) (defBody st) (defScope st) .none kV doc pm an (.ref cda) ct cc))
    {p0 p1 p2 p3 p4 p5 q1 q2 q3 q4 r1 r2 r3 r4 : Pos} {k3 : Nat} {txt : Str} (hbody : defBody st = [supS p0 p1 p2 p3 p4 p5 k3 txt, PySem.ErrX.asgS par q1 q2 q3 q4, PySem.ErrX.asgS par2 r1 r2 r3 r4]) (hS : ∀ L, SupT (ksEnv qual (defScope st) L fI (.ref cda) cc) p0 p1 p2 p3 p4 p5 k3 txt)
    (hsw : ∀ L, swapsWith (.Name par q3) (some (.Attribute (.Name "self" q1) par q2)) q4.line (ksEnv qual (defScope st) L fI (.ref cda) cc) = pure false) (hsw2 : ∀ L, swapsWith (.Name par2 r3) (some (.Attribute (.Name "self" r1) par2 r2)) r4.line (ksEnv qual (defScope st) L fI (.ref cda) cc) = pure false)
    (hcd : codeIn K (.ref cda) qual = true) (hpar : (defScope st).names.lookup par = some .local) (hpar2 : (defScope st).names.lookup par2 = some .local) (hne : par ≠ "self") (hne2 : par2 ≠ "self") (hne3 : par ≠ par2) (hdbg2 : (par2 == ("__debug__" : Str)) = false) (hdbg : (par == ("__debug__" : Str)) = false) (hcell : ∀ x ∈ (defScope st).names, x.2 ≠ .cell) (hco : (defScope st).isCoroutine = false) (hgen : (defScope st).isGenerator = false)
    (hno : findIn K (.ref C) par = some none) (hno2 : findIn K (.ref C) par2 = some none)
    (hbind : ∀ (s : Shared) (u v v2 : Value), BindsTo s (ksFn "__init__" qual (defArgs st) (defBody st) (defScope st) .none kV doc pm an (.ref cda) ct cc) ⟨[u], [(par2, v2), (par, v)]⟩ [("self", u), (par, v), (par2, v2)]) :
    ErrN P w K mg x C [par, par2] := by
  refine ⟨gC, fI, cc, cda, qual, defScope st, _, T, fun vs us r hl => ?_⟩
  match vs, us, r, hl with
  | [v, v2], [u, u2], .cons r (.cons r' .nil), _ =>
    refine ⟨fun y => if y = par2 then some u2 else if y = par then some u else none, fun A R s y t0 mb X hlim G B hb hx hnx hroom hq => ?_, fun f => ?_⟩
    · exact err_init2 (args := ⟨[.ref y], [(par2, u2), (par, u)]⟩) T hbody hS hsw hsw2 hcd hpar hpar2 hne hne2 hne3 hdbg2 hdbg hcell hco hgen hno hno2 X hlim G nsup B hb hx hnx hroom (hbind s _ u u2) hq
    · show RelO (([(par, v), (par2, v2)] : List (Str × V)).lookup f) _
      rw [List.lookup_cons, List.lookup_cons]
      by_cases e : f = par
      · subst e
        have q : RelO (some v) (some u) := r; simpa [hne3] using q
      · have e1 : (f == par) = false := by simpa using e
        rw [e1]
        by_cases e2 : f = par2
        · subst e2
          have q : RelO (some v2) (some u2) := r'; simpa using q
        · have : (f == par2) = false := by simpa using e2
          rw [this]
          show RelO none (if f = par2 then some u2 else if f = par then some u else none)
          rw [if_neg e2, if_neg e]
          trivial
end
section
variable {X : XP} {QD : D → En → Prop} {QL : List D → En → Prop} {ρ : En} {k : Kt} {x : Str} {ks : List Str} {fa : En → Out (List D)}
def kMkX (x : Str) (ks : List Str) (Q : D → En → Prop) : List D → En → Prop := fun ds ρ => ds.length = ks.length ∧ Q (.exc x ks ds) ρ
theorem w_kMkX {ds : List D} : kMkX x ks QD ds ρ = (ds.length = ks.length ∧ QD (.exc x ks ds) ρ) := rfl
theorem w_mkX : (mkX x ks fa ρ).W X QD = (fa ρ).W X (kMkX x ks QD) := by
  unfold mkX
  rw [Out.W_bind]
  congr 1; funext ds ρ1
  unfold kMkX
  by_cases h : ds.length = ks.length
  · rw [if_pos h]; simp [h, Out.W]
  · rw [if_neg h]; simp [h, Out.W]
def kRevA (Q : List D → En → Prop) : List D → En → Prop := fun ds ρ => Q ds.reverse ρ
theorem w_kRevA {ds : List D} : kRevA QL ds ρ = QL ds.reverse ρ := rfl
theorem w_revA : (revA fa ρ).W X QL = (fa ρ).W X (kRevA QL) := by
  unfold revA
  rw [Out.W_bind]
  rfl
/-- what may come of an except suite: a return -/
def Kt.ro (k : Kt) : Kt := ⟨fun _ => False, k.rt, fun _ _ _ _ => False, fun _ => False, fun _ => False⟩
def tryRX (sub : Str → Bool) (i : Nat) (g : En → SOut) (k : Kt) : XP := fun m ks ds ρ1 => if sub m = true then canSet ρ1 i = true ∧ (g (ρ1.set i (.val (.exc m ks ds)))).W k.ro else k.xc m ks ds ρ1
def Kt.trr (k : Kt) (sub : Str → Bool) (i : Nat) (g : En → SOut) : Kt := ⟨k.nx, k.rt, tryRX sub i g k, k.bk, k.ct⟩
variable {sub : Str → Bool} {i : Nat} {b g : En → SOut} {m : Str} {ds : List D}
theorem ro_rt : k.ro.rt = k.rt := rfl
theorem trr_nx : (k.trr sub i g).nx = k.nx := rfl
theorem trr_rt : (k.trr sub i g).rt = k.rt := rfl
theorem trr_bk : (k.trr sub i g).bk = k.bk := rfl
theorem trr_ct : (k.trr sub i g).ct = k.ct := rfl
theorem trr_xc : (k.trr sub i g).xc = tryRX sub i g k := rfl
theorem w_tryRX : tryRX sub i g k m ks ds ρ = if sub m = true then canSet ρ i = true ∧ (g (ρ.set i (.val (.exc m ks ds)))).W k.ro else k.xc m ks ds ρ := rfl
theorem w_tryR : (tryR sub i b g ρ).W k = (b ρ).W (k.trr sub i g) := by
  unfold tryR
  cases b ρ with
  | exc m ks ds ρ1 =>
    show (if sub m = true then _ else _ : SOut).W k = tryRX sub i g k m ks ds ρ1
    unfold tryRX
    by_cases h : sub m = true
    · rw [if_pos h, if_pos h]
      by_cases h2 : canSet ρ1 i = true
      · rw [if_pos h2, eq_true h2, true_and]
        cases g (ρ1.set i (.val (.exc m ks ds))) <;> rfl
      · rw [if_neg h2, eq_false h2, false_and]; rfl
    · rw [if_neg h, if_neg h]; rfl
  | _ => rfl
end
def wErr := And.intro @w_kMkX <| And.intro @w_mkX <| And.intro @w_kRevA <| And.intro @w_revA <| And.intro @ro_rt <| And.intro @trr_nx <| And.intro @trr_rt <| And.intro @trr_bk <| And.intro @trr_ct <| And.intro @trr_xc <| And.intro @w_tryRX <| @w_tryR
end Kd
namespace Kd
open PySem
def wLib := And.intro @List.getElem?_cons_zero.{0} <| And.intro @List.getElem?_cons_succ.{0} <| And.intro @List.getElem?_nil.{0} <| And.intro @List.set_cons_zero.{0} <| And.intro @List.set_cons_succ.{0} <| And.intro @List.length_cons.{0} <| And.intro @List.length_nil.{0} <| And.intro @Option.bind_some.{0,0} <| And.intro @Option.bind_none.{0,0} <| And.intro @Option.map_some.{0,0} <| And.intro @Option.map_none.{0,0} <| And.intro @Bool.not_true <| And.intro @Bool.not_false <| And.intro @Bool.and_true <| And.intro @Bool.and_false <| And.intro @Bool.true_and <| And.intro @Bool.false_and <| And.intro @Bool.or_true <| And.intro @Bool.or_false <| And.intro @Bool.false_or <| And.intro @Bool.true_or <| And.intro @decide_true <| And.intro @decide_false <| And.intro @decide_eq_true_eq <| And.intro @Bool.not_eq_true <| And.intro @Bool.not_eq_false <| And.intro @List.not_mem_nil.{0} <| And.intro @List.mem_cons.{0} <| And.intro @or_false <| And.intro @or_true <| And.intro @false_or <| And.intro @true_or <| And.intro @and_true <| And.intro @true_and <| And.intro @and_false <| And.intro @false_and <| And.intro @not_true_eq_false <| And.intro @not_false_eq_true <| And.intro @List.nodup_cons.{0} <| And.intro @List.nodup_nil.{0} <| And.intro @List.map_cons.{0,0} <| And.intro @List.map_nil.{0,0} <| And.intro @List.cons_append.{0} <| And.intro @List.nil_append.{0} <| And.intro @List.append_nil.{0} <| And.intro @Bool.false_eq_true <| And.intro @Bool.true_eq_false <| And.intro @List.replicate_succ.{0} <| And.intro @List.replicate_zero.{0} <| And.intro @List.zip_cons_cons.{0,0} <| And.intro @List.zip_nil_left.{0,0} <| And.intro @List.lookup_cons.{0,0} <| And.intro @beq_self_eq_true.{0} <| And.intro @Bool.bne_false <| And.intro @Bool.bne_true <| And.intro @Bool.false_bne <| And.intro @Bool.true_bne <| @Int.cast_ofNat_Int
end Kd
namespace K01
open PySem PySem.Spec PyProof.Rows L2 Kq StX ClX LamX Kd
noncomputable section
namespace Pg
def supP : Str → List Str := fun n => ((([("PhraseError", ["PhraseError"]), ("BadWord", ["BadWord", "PhraseError"]), ("BadPlace", ["BadPlace", "PhraseError"]), ("BadTruth", ["BadTruth", "PhraseError"]), ("BadCount", ["BadCount", "PhraseError"]), ("BadLimit", ["BadLimit", "PhraseError"]), ("BadOrder", ["BadOrder", "PhraseError"]), ("BadGroup", ["BadGroup", "PhraseError"]), ("BadTree", ["BadTree", "PhraseError"]), ("Unlike", ["Unlike", "PhraseError"]), ("BadBook", ["BadBook", "PhraseError"]), ("BadNode", ["BadNode", "PhraseError"]), ("BadList", ["BadList", "PhraseError"]), ("NoWord", ["NoWord", "PhraseError"]), ("Taken", ["Taken", "PhraseError"]), ("BadCommand", ["BadCommand", "PhraseError"]), ("BadText", ["BadText", "PhraseError"]), ("NoName", ["NoName", "PhraseError"]), ("NotPhrase", ["NotPhrase", "PhraseError"]), ("Breaks", ["Breaks", "PhraseError"]), ("Clash", ["Clash", "PhraseError"]), ("TooMany", ["TooMany", "PhraseError"]), ("NoChange", ["NoChange", "PhraseError"]), ("LastOrder", ["LastOrder", "PhraseError"])] : List (Str × List Str)).lookup n).getD [])
def sub_PhraseError : Str → Bool := fun n => decide (n ∈ (["PhraseError", "BadWord", "BadPlace", "BadTruth", "BadCount", "BadLimit", "BadOrder", "BadGroup", "BadTree", "Unlike", "BadBook", "BadNode", "BadList", "NoWord", "Taken", "BadCommand", "BadText", "NoName", "NotPhrase", "Breaks", "Clash", "TooMany", "NoChange", "LastOrder"] : List Str))
end Pg
open Pg
def B_pen : En → SOut := (retF (lstS (consS (cal listG (consS (opv (slS (slt 0) noP (someP (con (.int 63))))) nilS)) (consS (con (.int 0)) (consS (con (.int 0)) nilS)))))
def F_pen : Fn := defF 1 1 B_pen
def B_kinds : En → SOut := (retS (lstS (consS (cal (isiG supP) (consS (slt 0) (consS (opv (con (.cls "BadWord"))) nilS))) (consS (cal (isiG supP) (consS (slt 0) (consS (opv (con (.cls "BadPlace"))) nilS))) (consS (cal (isiG supP) (consS (slt 0) (consS (opv (con (.cls "BadTruth"))) nilS))) (consS (cal (isiG supP) (consS (slt 0) (consS (opv (con (.cls "BadCount"))) nilS))) (consS (cal (isiG supP) (consS (slt 0) (consS (opv (con (.cls "BadLimit"))) nilS))) (consS (cal (isiG supP) (consS (slt 0) (consS (opv (con (.cls "BadOrder"))) nilS))) (consS (cal (isiG supP) (consS (slt 0) (consS (opv (con (.cls "BadGroup"))) nilS))) (consS (cal (isiG supP) (consS (slt 0) (consS (opv (con (.cls "BadTree"))) nilS))) (consS (cal (isiG supP) (consS (slt 0) (consS (opv (con (.cls "Unlike"))) nilS))) (consS (cal (isiG supP) (consS (slt 0) (consS (opv (con (.cls "BadBook"))) nilS))) (consS (cal (isiG supP) (consS (slt 0) (consS (opv (con (.cls "BadNode"))) nilS))) (consS (cal (isiG supP) (consS (slt 0) (consS (opv (con (.cls "BadList"))) nilS))) (consS (cal (isiG supP) (consS (slt 0) (consS (opv (con (.cls "NoWord"))) nilS))) (consS (cal (isiG supP) (consS (slt 0) (consS (opv (con (.cls "Taken"))) nilS))) (consS (cal (isiG supP) (consS (slt 0) (consS (opv (con (.cls "BadCommand"))) nilS))) (consS (cal (isiG supP) (consS (slt 0) (consS (opv (con (.cls "NoName"))) nilS))) (consS (cal (isiG supP) (consS (slt 0) (consS (opv (con (.cls "BadText"))) nilS))) (consS (cal (isiG supP) (consS (slt 0) (consS (opv (con (.cls "NotPhrase"))) nilS))) (consS (cal (isiG supP) (consS (slt 0) (consS (opv (con (.cls "Breaks"))) nilS))) (consS (cal (isiG supP) (consS (slt 0) (consS (opv (con (.cls "Clash"))) nilS))) (consS (cal (isiG supP) (consS (slt 0) (consS (opv (con (.cls "TooMany"))) nilS))) (consS (cal (isiG supP) (consS (slt 0) (consS (opv (con (.cls "NoChange"))) nilS))) (consS (cal (isiG supP) (consS (slt 0) (consS (opv (con (.cls "LastOrder"))) nilS))) nilS)))))))))))))))))))))))))
def F_kinds : Fn := defF 1 1 B_kinds
def B_caught : En → SOut := (seqS (tryR sub_PhraseError 1 (seqS (ifSt (tst (bin (eqG false) (slt 0) (opv (con (.int 0)))))
    (raiseS "NoChange" [] nilS)
    skip)
    (seqS (ifSt (tst (bin (eqG false) (slt 0) (opv (con (.int 1)))))
    (raiseS "LastOrder" [] nilS)
    skip)
    (raiseS "TooMany" ["what", "most"] (consS (con (.str "orders")) (consS (var 0) nilS))))) (retS (callS F_kinds (valA (var 1) nilS))))
    (retS (lstS nilS)))
def F_caught : Fn := defF 1 2 B_caught
def B_draw : En → SOut := (seqS (ifSt (tst (bin (ordG (fun i j => decide (j < i)) (fun i j => decide (j.cps.toList < i.cps.toList))) (opv (bin ixG (slt 0) (opv (con (.int 2))))) (opv (con (.int 0)))))
    (seqS (asgS 2 (bin (icG modOk fun i j => .int (i % j)) (opv (cal int1G (consS (opv (bin ixG (slt 0) (opv (con (.int 2))))) nilS))) (slt 1)))
    (seqS (putS 0 (con (.int 2)) (bin (icG divOk fun i j => .int (i / j)) (opv (cal int1G (consS (opv (bin ixG (slt 0) (opv (con (.int 2))))) nilS))) (slt 1)))
    (retS (var 2))))
    skip)
    (seqS (asgS 3 (bin ixG (slt 0) (opv (con (.int 1)))))
    (seqS (putS 0 (con (.int 1)) (bin addG (slt 3) (opv (con (.int 1)))))
    (seqS (asgS 4 (bin addG (opv (bin (icG mulOk fun i j => .int (i * j)) (opv (con (.int 61214))) (slt 3))) (opv (con (.int 818)))))
    (seqS (ifSt (tst (bin neX (opv (bin ixG (slt 0) (opv (con (.int 0))))) (opv (lstS nilS))))
    (asgS 4 (bin ixG (opv (bin ixG (slt 0) (opv (con (.int 0))))) (opv (bin (icG modOk fun i j => .int (i % j)) (opv (cal int1G (consS (slt 3) nilS))) (opv (cal lenG (consS (opv (bin ixG (slt 0) (opv (con (.int 0))))) nilS)))))))
    skip)
    (seqS (ifSt (andT (tst (bin (ordG (fun i j => decide (i < j)) (fun i j => decide (i.cps.toList < j.cps.toList))) (slt 3) (opv (cal lenG (consS (opv (bin ixG (slt 0) (opv (con (.int 0))))) nilS))))) (tst (bin (ordG (fun i j => decide (j ≤ i)) (fun i j => !decide (i.cps.toList < j.cps.toList))) (opv (cal absG (consS (slt 4) nilS))) (opv (bin (icG powOk fun i j => .int (i ^ j.toNat)) (opv (con (.int 10))) (opv (con (.int 18))))))))
    (seqS (asgS 5 (bin addG (opv (bin (icG mulOk fun i j => .int (i * j)) (opv (con (.int 2))) (opv (bin (iiG fun i j => .int (i - j)) (opv (cal absG (consS (slt 4) nilS))) (opv (bin (icG powOk fun i j => .int (i ^ j.toNat)) (opv (con (.int 10))) (opv (con (.int 18))))))))) (opv (cal int1G (consS (opv (bin (ordG (fun i j => decide (i < j)) (fun i j => decide (i.cps.toList < j.cps.toList))) (slt 4) (opv (con (.int 0))))) nilS)))))
    (seqS (putS 0 (con (.int 2)) (bin (icG divOk fun i j => .int (i / j)) (opv (cal int1G (consS (slt 5) nilS))) (slt 1)))
    (retS (bin (icG modOk fun i j => .int (i % j)) (opv (cal int1G (consS (slt 5) nilS))) (slt 1)))))
    skip)
    (seqS (asgS 6 (bin (icG modOk fun i j => .int (i % j)) (opv (cal int1G (consS (opv (bin (icG powOk fun i j => .int (i ^ j.toNat)) (opv (bin addG (opv (bin addG (opv (bin (icG modOk fun i j => .int (i % j)) (opv (cal int1G (consS (slt 4) nilS))) (opv (con (.int 2147483629))))) (opv (bin (icG mulOk fun i j => .int (i * j)) (opv (con (.int 47914))) (slt 3))))) (opv (con (.int 422))))) (opv (con (.int 5))))) nilS))) (opv (con (.int 2147483543)))))
    (seqS (asgS 6 (bin (icG modOk fun i j => .int (i % j)) (opv (cal int1G (consS (opv (bin (icG powOk fun i j => .int (i ^ j.toNat)) (opv (bin addG (opv (bin addG (opv (bin (icG mulOk fun i j => .int (i * j)) (slt 6) (opv (bin addG (opv (bin (icG mulOk fun i j => .int (i * j)) (opv (con (.int 2))) (slt 3))) (opv (con (.int 137))))))) (opv (bin (icG mulOk fun i j => .int (i * j)) (opv (bin (icG mulOk fun i j => .int (i * j)) (opv (con (.int 53228))) (slt 3))) (slt 3))))) (opv (con (.int 94))))) (opv (con (.int 3))))) nilS))) (opv (con (.int 2147483477)))))
    (retS (bin (icG modOk fun i j => .int (i % j)) (opv (cal int1G (consS (opv (bin (icG divOk fun i j => .int (i / j)) (slt 6) (opv (con (.int 32))))) nilS))) (slt 1)))))))))))
def F_draw : Fn := defF 2 7 B_draw
def B_pick : En → SOut := (retS (bin ixG (slt 1) (opv (callS F_draw (ioA 0 (valA (cal lenG (consS (slt 1) nilS)) nilS))))))
def F_pick : Fn := defF 2 2 B_pick
def B_value : En → SOut := (seqS (asgS 1 (lstS (consS (con .non) (consS (con (.bl true)) (consS (con (.bl false)) (consS (con (.int 0)) (consS (un negG (opv (con (.int 1)))) (consS (bin (icG powOk fun i j => .int (i ^ j.toNat)) (opv (con (.int 10))) (opv (con (.int 39)))) (consS (con (.str "")) (consS (con (.str "a")) (consS (con (.str "a b")) (consS (con (.str "words")) (consS (lstS (consS (con (.str "a")) nilS)) (consS (tupS (consS (con (.str "a")) (consS (con (.int 1)) nilS))) (consS (dct1 "a" (con .non)) (consS (lstS (consS (lstS nilS) nilS)) nilS))))))))))))))))
    (retS (callS F_pick (ioA 0 (valA (var 1) nilS)))))
def F_value : Fn := defF 1 2 B_value
def B_singles : En → SOut := (seqS (ifSt (tst (var 1))
    (retS (lstS (consS (mkX "BadWord" ["value"] (revA (consS (var 0) nilS))) (consS (mkX "BadPlace" ["value"] (revA (consS (var 0) nilS))) (consS (mkX "BadTruth" ["value"] (revA (consS (var 0) nilS))) (consS (mkX "BadCount" ["value"] (revA (consS (var 0) nilS))) (consS (mkX "BadLimit" ["value"] (revA (consS (var 0) nilS))) (consS (mkX "BadOrder" ["part"] (revA (consS (var 0) nilS))) (consS (mkX "BadGroup" ["part"] (revA (consS (var 0) nilS))) (consS (mkX "BadTree" ["part"] (revA (consS (var 0) nilS))) (consS (mkX "Unlike" ["part"] (revA (consS (var 0) nilS))) (consS (mkX "BadBook" ["at"] (revA (consS (var 0) nilS))) (consS (mkX "BadNode" ["at"] (revA (consS (var 0) nilS))) (consS (mkX "BadList" ["at"] (revA (consS (var 0) nilS))) (consS (mkX "NoWord" ["word"] (revA (consS (var 0) nilS))) (consS (mkX "Taken" ["word"] (revA (consS (var 0) nilS))) (consS (mkX "BadCommand" ["word"] (revA (consS (var 0) nilS))) (consS (mkX "NoName" ["name"] (revA (consS (var 0) nilS))) nilS))))))))))))))))))
    skip)
    (retS (lstS (consS (mkX "BadWord" ["value"] (consS (var 0) nilS)) (consS (mkX "BadPlace" ["value"] (consS (var 0) nilS)) (consS (mkX "BadTruth" ["value"] (consS (var 0) nilS)) (consS (mkX "BadCount" ["value"] (consS (var 0) nilS)) (consS (mkX "BadLimit" ["value"] (consS (var 0) nilS)) (consS (mkX "BadOrder" ["part"] (consS (var 0) nilS)) (consS (mkX "BadGroup" ["part"] (consS (var 0) nilS)) (consS (mkX "BadTree" ["part"] (consS (var 0) nilS)) (consS (mkX "Unlike" ["part"] (consS (var 0) nilS)) (consS (mkX "BadBook" ["at"] (consS (var 0) nilS)) (consS (mkX "BadNode" ["at"] (consS (var 0) nilS)) (consS (mkX "BadList" ["at"] (consS (var 0) nilS)) (consS (mkX "NoWord" ["word"] (consS (var 0) nilS)) (consS (mkX "Taken" ["word"] (consS (var 0) nilS)) (consS (mkX "BadCommand" ["word"] (consS (var 0) nilS)) (consS (mkX "NoName" ["name"] (consS (var 0) nilS)) nilS)))))))))))))))))))
def F_singles : Fn := defF 2 2 B_singles
def B_doubles : En → SOut := (seqS (ifSt (tst (var 2))
    (retS (lstS (consS (mkX "BadText" ["line", "word"] (revA (consS (var 1) (consS (var 0) nilS)))) (consS (mkX "NotPhrase" ["group", "pull"] (revA (consS (var 1) (consS (var 0) nilS)))) (consS (mkX "Breaks" ["group", "pull"] (revA (consS (var 1) (consS (var 0) nilS)))) (consS (mkX "Clash" ["run", "chain"] (revA (consS (var 1) (consS (var 0) nilS)))) (consS (mkX "TooMany" ["what", "most"] (revA (consS (var 1) (consS (var 0) nilS)))) nilS)))))))
    skip)
    (retS (lstS (consS (mkX "BadText" ["line", "word"] (consS (var 0) (consS (var 1) nilS))) (consS (mkX "NotPhrase" ["group", "pull"] (consS (var 0) (consS (var 1) nilS))) (consS (mkX "Breaks" ["group", "pull"] (consS (var 0) (consS (var 1) nilS))) (consS (mkX "Clash" ["run", "chain"] (consS (var 0) (consS (var 1) nilS))) (consS (mkX "TooMany" ["what", "most"] (consS (var 0) (consS (var 1) nilS))) nilS))))))))
def F_doubles : Fn := defF 3 3 B_doubles
def B_single_fields : En → SOut := (retS (lstS (consS (un (getX "value") (opv (bin ixG (slt 0) (opv (con (.int 0)))))) (consS (un (getX "value") (opv (bin ixG (slt 0) (opv (con (.int 1)))))) (consS (un (getX "value") (opv (bin ixG (slt 0) (opv (con (.int 2)))))) (consS (un (getX "value") (opv (bin ixG (slt 0) (opv (con (.int 3)))))) (consS (un (getX "value") (opv (bin ixG (slt 0) (opv (con (.int 4)))))) (consS (un (getX "part") (opv (bin ixG (slt 0) (opv (con (.int 5)))))) (consS (un (getX "part") (opv (bin ixG (slt 0) (opv (con (.int 6)))))) (consS (un (getX "part") (opv (bin ixG (slt 0) (opv (con (.int 7)))))) (consS (un (getX "part") (opv (bin ixG (slt 0) (opv (con (.int 8)))))) (consS (un (getX "at") (opv (bin ixG (slt 0) (opv (con (.int 9)))))) (consS (un (getX "at") (opv (bin ixG (slt 0) (opv (con (.int 10)))))) (consS (un (getX "at") (opv (bin ixG (slt 0) (opv (con (.int 11)))))) (consS (un (getX "word") (opv (bin ixG (slt 0) (opv (con (.int 12)))))) (consS (un (getX "word") (opv (bin ixG (slt 0) (opv (con (.int 13)))))) (consS (un (getX "word") (opv (bin ixG (slt 0) (opv (con (.int 14)))))) (consS (un (getX "name") (opv (bin ixG (slt 0) (opv (con (.int 15)))))) nilS))))))))))))))))))
def F_single_fields : Fn := defF 1 1 B_single_fields
def B_double_fields : En → SOut := (retS (lstS (consS (lstS (consS (un (getX "line") (opv (bin ixG (slt 0) (opv (con (.int 0)))))) (consS (un (getX "word") (opv (bin ixG (slt 0) (opv (con (.int 0)))))) nilS))) (consS (lstS (consS (un (getX "group") (opv (bin ixG (slt 0) (opv (con (.int 1)))))) (consS (un (getX "pull") (opv (bin ixG (slt 0) (opv (con (.int 1)))))) nilS))) (consS (lstS (consS (un (getX "group") (opv (bin ixG (slt 0) (opv (con (.int 2)))))) (consS (un (getX "pull") (opv (bin ixG (slt 0) (opv (con (.int 2)))))) nilS))) (consS (lstS (consS (un (getX "run") (opv (bin ixG (slt 0) (opv (con (.int 3)))))) (consS (un (getX "chain") (opv (bin ixG (slt 0) (opv (con (.int 3)))))) nilS))) (consS (lstS (consS (un (getX "what") (opv (bin ixG (slt 0) (opv (con (.int 4)))))) (consS (un (getX "most") (opv (bin ixG (slt 0) (opv (con (.int 4)))))) nilS))) nilS)))))))
def F_double_fields : Fn := defF 1 1 B_double_fields
def B_law : En → SOut := (seqS (ownS 1 (callN F_pen (valA (var 0) nilS)))
    (seqS (forSt (rngI rng1 (consS (con (.int 4)) nilS)) (nmG 2)
    (seqS (setS (tupG 2 (consG (nmG 3) (consG (nmG 4) nilG))) (tupS (consS (callS F_value (ioA 1 nilS)) (consS (callS F_value (ioA 1 nilS)) nilS))))
    (seqS (asgS 5 (bin (eqG false) (opv (callS F_draw (ioA 1 (valA (con (.int 2)) nilS)))) (opv (con (.int 0)))))
    (seqS (parS 6 7 (consS (callS F_singles (valA (var 3) (valA (var 5) nilS))) (consS (callS F_doubles (valA (var 3) (valA (var 4) (valA (var 5) nilS)))) nilS)))
    (seqS (asgS 8 (bin addG (opv (bin addG (slt 6) (slt 7))) (opv (lstS (consS (con (.exc "NoChange" [] [])) (consS (con (.exc "LastOrder" [] [])) nilS))))))
    (seqS (forSt (enumI (var 8)) (tupG 2 (consG (nmG 9) (consG (nmG 10) nilG)))
    (seqS (ifSt (tst (bin neX (opv (callS F_kinds (valA (var 10) nilS))) (opv (lcS (rngI rng1 (consS (con (.int 23)) nilS)) (nmG 11) yesT (bin (eqG false) (slt 9) (slt 11)) [11]))))
    (retS (con (.bl false)))
    skip)
    (ifSt (orT (notT (tst (cal (isiG supP) (consS (slt 10) (consS (opv (con (.cls "PhraseError"))) nilS))))) (notT (tst (cal isvG (consS (slt 10) (consS (opv (con (.ty "ValueError"))) nilS))))))
    (retS (con (.bl false)))
    skip)))
    (seqS (ifSt (tst (bin neX (opv (cal (reprGL [[(.inr "a", .non)]]) (consS (opv (callS F_single_fields (valA (var 6) nilS))) nilS))) (opv (cal (reprGL [[(.inr "a", .non)]]) (consS (opv (lcS (rngI rng1 (consS (con (.int 16)) nilS)) (nmG 11) yesT (var 3) [11])) nilS)))))
    (retS (con (.bl false)))
    skip)
    (ifSt (tst (bin neX (opv (cal (reprGL [[(.inr "a", .non)]]) (consS (opv (callS F_double_fields (valA (var 7) nilS))) nilS))) (opv (cal (reprGL [[(.inr "a", .non)]]) (consS (opv (lcS (rngI rng1 (consS (con (.int 5)) nilS)) (nmG 11) yesT (lstS (consS (var 3) (consS (var 4) nilS))) [11])) nilS)))))
    (retS (con (.bl false)))
    skip))))))))
    (seqS (asgS 12 (lcS (rngI rng1 (consS (con (.int 3)) nilS)) (nmG 13) yesT (callS F_caught (valA (var 13) nilS)) [13]))
    (retS (bin (eqG false) (slt 12) (opv (lcS (seqI (lstS (consS (con (.int 21)) (consS (con (.int 22)) (consS (con (.int 20)) nilS))))) (nmG 9) yesT (lcS (rngI rng1 (consS (con (.int 23)) nilS)) (nmG 11) yesT (bin (eqG false) (slt 9) (slt 11)) [11]) [9])))))))
end
end K01
namespace K01
open PySem Kd Pg
theorem ze1 (p : D) (m at_ c y : Int) (m1 : mulOk y (2 * at_ + 137) = true) : (bin (icG mulOk fun i j => D.int (i * j)) (slt 6) (opv (bin addG (opv (bin (icG mulOk fun i j => D.int (i * j)) (opv (con (D.int 2))) (slt 3))) (opv (con (D.int 137)))))) [.io p, .val (.int m), .un, .val (.int at_), .val (.int c), .un, .val (.int y)] = .ok (.int (y * (2 * at_ + 137))) [.io p, .val (.int m), .un, .val (.int at_), .val (.int c), .un, .val (.int y)] := by
  simp [m1, defF, bodyF, seqS, ifSt, toS, tst, bin, slt, opv, con, cont, Out.bind, lift, deref, ixG, sqD, at0, at1, at2, ordG, asB, asI, asgS, canSet, isIo, cal, consS, nilS, derefs, int1G, icG, modOk, divOk, putS, owned, modS, ownAt, keepK, setK, L2.ixN, retS, retF, var, mrg, List.replicate, skip, addG, lenG, lstS, tupS, andT, orT, notT, andS, orS, notS, ifS, mulOk_l, big64, absG, iiG, callS, callN, valA, ioA, starA, argSV, argSVs, ios, upA, ownS, listG, parS, un, negG, appS, appD, isL, nmG, setS, tupG, consG, nilG, seqD, chn, isN]
theorem ze2 (p : D) (m at_ c y : Int) (m2 : mulOk (53228 * at_) at_ = true) : (bin (icG mulOk fun i j => D.int (i * j)) (opv (bin (icG mulOk fun i j => D.int (i * j)) (opv (con (D.int 53228))) (slt 3))) (slt 3)) [.io p, .val (.int m), .un, .val (.int at_), .val (.int c), .un, .val (.int y)] = .ok (.int (53228 * at_ * at_)) [.io p, .val (.int m), .un, .val (.int at_), .val (.int c), .un, .val (.int y)] := by
  simp [m2, defF, bodyF, seqS, ifSt, toS, tst, bin, slt, opv, con, cont, Out.bind, lift, deref, ixG, sqD, at0, at1, at2, ordG, asB, asI, asgS, canSet, isIo, cal, consS, nilS, derefs, int1G, icG, modOk, divOk, putS, owned, modS, ownAt, keepK, setK, L2.ixN, retS, retF, var, mrg, List.replicate, skip, addG, lenG, lstS, tupS, andT, orT, notT, andS, orS, notS, ifS, mulOk_l, big64, absG, iiG, callS, callN, valA, ioA, starA, argSV, argSVs, ios, upA, ownS, listG, parS, un, negG, appS, appD, isL, nmG, setS, tupG, consG, nilG, seqD, chn, isN]
theorem ze3 {a b : Int} {f g : En → Out D} {ρ : En} (h1 : f ρ = .ok (.int a) ρ) (h2 : g ρ = .ok (.int b) ρ) : (bin addG (opv f) (opv g)) ρ = .ok (.int (a + b)) ρ := by
  simp [h1, h2, defF, bodyF, seqS, ifSt, toS, tst, bin, slt, opv, con, cont, Out.bind, lift, deref, ixG, sqD, at0, at1, at2, ordG, asB, asI, asgS, canSet, isIo, cal, consS, nilS, derefs, int1G, icG, modOk, divOk, putS, owned, modS, ownAt, keepK, setK, L2.ixN, retS, retF, var, mrg, List.replicate, skip, addG, lenG, lstS, tupS, andT, orT, notT, andS, orS, notS, ifS, mulOk_l, big64, absG, iiG, callS, callN, valA, ioA, starA, argSV, argSVs, ios, upA, ownS, listG, parS, un, negG, appS, appD, isL, nmG, setS, tupG, consG, nilG, seqD, chn, isN]
theorem ze4 (p : D) (m at_ c y z w : Int) (E1 : En → Out D) (e1 : E1 [.io p, .val (.int m), .un, .val (.int at_), .val (.int c), .un, .val (.int y)] = .ok (.int w) [.io p, .val (.int m), .un, .val (.int at_), .val (.int c), .un, .val (.int y)]) (p2 : powOk w 3 = true) (hz : w ^ 3 % 2147483477 = z) :
    asgS 6 (bin (icG modOk fun i j => D.int (i % j)) (opv (cal int1G (consS (opv (bin (icG powOk fun i j => D.int (i ^ j.toNat)) (opv E1) (opv (con (D.int 3))))) nilS))) (opv (con (D.int 2147483477)))) [.io p, .val (.int m), .un, .val (.int at_), .val (.int c), .un, .val (.int y)] = .nx [.io p, .val (.int m), .un, .val (.int at_), .val (.int c), .un, .val (.int z)] := by
  simp [e1, p2, hz, defF, bodyF, seqS, ifSt, toS, tst, bin, slt, opv, con, cont, Out.bind, lift, deref, ixG, sqD, at0, at1, at2, ordG, asB, asI, asgS, canSet, isIo, cal, consS, nilS, derefs, int1G, icG, modOk, divOk, putS, owned, modS, ownAt, keepK, setK, L2.ixN, retS, retF, var, mrg, List.replicate, skip, addG, lenG, lstS, tupS, andT, orT, notT, andS, orS, notS, ifS, mulOk_l, big64, absG, iiG, callS, callN, valA, ioA, starA, argSV, argSVs, ios, upA, ownS, listG, parS, un, negG, appS, appD, isL, nmG, setS, tupG, consG, nilG, seqD, chn, isN]
theorem ze5 (p : D) (m at_ c z : Int) (hm : 0 < m) :
    retS (bin (icG modOk fun i j => D.int (i % j)) (opv (cal int1G (consS (opv (bin (icG divOk fun i j => D.int (i / j)) (slt 6) (opv (con (D.int 32))))) nilS))) (slt 1)) [.io p, .val (.int m), .un, .val (.int at_), .val (.int c), .un, .val (.int z)] = .rt false (.int (z / 32 % m)) [.io p, .val (.int m), .un, .val (.int at_), .val (.int c), .un, .val (.int z)] := by
  simp [hm, defF, bodyF, seqS, ifSt, toS, tst, bin, slt, opv, con, cont, Out.bind, lift, deref, ixG, sqD, at0, at1, at2, ordG, asB, asI, asgS, canSet, isIo, cal, consS, nilS, derefs, int1G, icG, modOk, divOk, putS, owned, modS, ownAt, keepK, setK, L2.ixN, retS, retF, var, mrg, List.replicate, skip, addG, lenG, lstS, tupS, andT, orT, notT, andS, orS, notS, ifS, mulOk_l, big64, absG, iiG, callS, callN, valA, ioA, starA, argSV, argSVs, ios, upA, ownS, listG, parS, un, negG, appS, appD, isL, nmG, setS, tupG, consG, nilG, seqD, chn, isN]
theorem draw_a (cs : List Int) (at_ g m : Int) (hg : 0 < g) (hm : 0 < m) (hm2 : m < 1073741824) :
    F_draw [.io (pen cs at_ g), .val (.int m)] = .ret false (.int (g % m)) [.io (pen cs at_ (g / m)), .val (.int m)] := by
  simp [pen, F_draw, B_draw, hg, hm, hm2, defF, bodyF, seqS, ifSt, toS, tst, bin, slt, opv, con, cont, Out.bind, lift, deref, ixG, sqD, at0, at1, at2, ordG, asB, asI, asgS, canSet, isIo, cal, consS, nilS, derefs, int1G, icG, modOk, divOk, putS, owned, modS, ownAt, keepK, setK, L2.ixN, retS, retF, var, mrg, List.replicate, skip, addG, lenG, lstS, tupS, andT, orT, notT, andS, orS, notS, ifS, mulOk_l, big64, absG, iiG, callS, callN, valA, ioA, starA, argSV, argSVs, ios, upA, ownS, listG, parS, un, negG, appS, appD, isL, nmG, setS, tupG, consG, nilG, seqD, chn, isN]
theorem draw_b (cs : List Int) (hl : cs.length ≤ 63) (at_ : Nat) (g m : Int) (hg : ¬ 0 < g) (hb : at_ ≤ 1048576) (hm : 0 < m) (hm2 : m < 1073741824) :
    ∃ r g', F_draw [.io (pen cs at_ g), .val (.int m)] = .ret false (.int r) [.io (pen cs ((at_ : Int) + 1) g'), .val (.int m)] ∧ 0 ≤ r ∧ r < m := by
  have rm : ∀ x : Int, 0 ≤ x % m ∧ x % m < m := fun x => ⟨Int.emod_nonneg x (by omega), Int.emod_lt_of_pos x hm⟩
  unfold F_draw defF
  rw [if_pos (by rfl)]
  suffices h : ∃ r g' ρ, B_draw [.io (pen cs at_ g), .val (.int m), .un, .un, .un, .un, .un] = .rt false (.int r) (.io (pen cs ((at_ : Int) + 1) g') :: .val (.int m) :: ρ) ∧ 0 ≤ r ∧ r < m by
    obtain ⟨r, g', ρ, e, h1, h2⟩ := h
    exact ⟨r, g', (bodyF_rt e).trans (by cases ρ <;> rfl), h1, h2⟩
  unfold B_draw
  rw [seqS_nx (ρ' := [.io (pen cs at_ g), .val (.int m), .un, .un, .un, .un, .un]) (by simp [pen, hg, defF, bodyF, seqS, ifSt, toS, tst, bin, slt, opv, con, cont, Out.bind, lift, deref, ixG, sqD, at0, at1, at2, ordG, asB, asI, asgS, canSet, isIo, cal, consS, nilS, derefs, int1G, icG, modOk, divOk, putS, owned, modS, ownAt, keepK, setK, L2.ixN, retS, retF, var, mrg, List.replicate, skip, addG, lenG, lstS, tupS, andT, orT, notT, andS, orS, notS, ifS, mulOk_l, big64, absG, iiG, callS, callN, valA, ioA, starA, argSV, argSVs, ios, upA, ownS, listG, parS, un, negG, appS, appD, isL, nmG, setS, tupG, consG, nilG, seqD, chn, isN])]
  rw [seqS_nx (ρ' := [.io (pen cs at_ g), .val (.int m), .un, .val (.int at_), .un, .un, .un]) (by simp [pen, defF, bodyF, seqS, ifSt, toS, tst, bin, slt, opv, con, cont, Out.bind, lift, deref, ixG, sqD, at0, at1, at2, ordG, asB, asI, asgS, canSet, isIo, cal, consS, nilS, derefs, int1G, icG, modOk, divOk, putS, owned, modS, ownAt, keepK, setK, L2.ixN, retS, retF, var, mrg, List.replicate, skip, addG, lenG, lstS, tupS, andT, orT, notT, andS, orS, notS, ifS, mulOk_l, big64, absG, iiG, callS, callN, valA, ioA, starA, argSV, argSVs, ios, upA, ownS, listG, parS, un, negG, appS, appD, isL, nmG, setS, tupG, consG, nilG, seqD, chn, isN])]
  rw [seqS_nx (ρ' := [.io (pen cs (at_ + 1) g), .val (.int m), .un, .val (.int at_), .un, .un, .un]) (by simp [pen, defF, bodyF, seqS, ifSt, toS, tst, bin, slt, opv, con, cont, Out.bind, lift, deref, ixG, sqD, at0, at1, at2, ordG, asB, asI, asgS, canSet, isIo, cal, consS, nilS, derefs, int1G, icG, modOk, divOk, putS, owned, modS, ownAt, keepK, setK, L2.ixN, retS, retF, var, mrg, List.replicate, skip, addG, lenG, lstS, tupS, andT, orT, notT, andS, orS, notS, ifS, mulOk_l, big64, absG, iiG, callS, callN, valA, ioA, starA, argSV, argSVs, ios, upA, ownS, listG, parS, un, negG, appS, appD, isL, nmG, setS, tupG, consG, nilG, seqD, chn, isN])]
  rw [seqS_nx (ρ' := [.io (pen cs (at_ + 1) g), .val (.int m), .un, .val (.int at_), .val (.int (61214 * at_ + 818)), .un, .un]) (by simp [pen, defF, bodyF, seqS, ifSt, toS, tst, bin, slt, opv, con, cont, Out.bind, lift, deref, ixG, sqD, at0, at1, at2, ordG, asB, asI, asgS, canSet, isIo, cal, consS, nilS, derefs, int1G, icG, modOk, divOk, putS, owned, modS, ownAt, keepK, setK, L2.ixN, retS, retF, var, mrg, List.replicate, skip, addG, lenG, lstS, tupS, andT, orT, notT, andS, orS, notS, ifS, mulOk_l, big64, absG, iiG, callS, callN, valA, ioA, starA, argSV, argSVs, ios, upA, ownS, listG, parS, un, negG, appS, appD, isL, nmG, setS, tupG, consG, nilG, seqD, chn, isN])]
  have cell : ∃ c : Int, ifSt (tst (bin neX (opv (bin ixG (slt 0) (opv (con (.int 0))))) (opv (lstS nilS))))
    (asgS 4 (bin ixG (opv (bin ixG (slt 0) (opv (con (.int 0))))) (opv (bin (icG modOk fun i j => .int (i % j)) (opv (cal int1G (consS (slt 3) nilS))) (opv (cal lenG (consS (opv (bin ixG (slt 0) (opv (con (.int 0))))) nilS)))))))
    skip [.io (pen cs (at_ + 1) g), .val (.int m), .un, .val (.int at_), .val (.int (61214 * at_ + 818)), .un, .un] = .nx [.io (pen cs (at_ + 1) g), .val (.int m), .un, .val (.int at_), .val (.int c), .un, .un] := by
    cases cs with
    | nil => exact ⟨61214 * at_ + 818, by simp [pen, ne_nil, neX_lst, defF, bodyF, seqS, ifSt, toS, tst, bin, slt, opv, con, cont, Out.bind, lift, deref, ixG, sqD, at0, at1, at2, ordG, asB, asI, asgS, canSet, isIo, cal, consS, nilS, derefs, int1G, icG, modOk, divOk, putS, owned, modS, ownAt, keepK, setK, L2.ixN, retS, retF, var, mrg, List.replicate, skip, addG, lenG, lstS, tupS, andT, orT, notT, andS, orS, notS, ifS, mulOk_l, big64, absG, iiG, callS, callN, valA, ioA, starA, argSV, argSVs, ios, upA, ownS, listG, parS, un, negG, appS, appD, isL, nmG, setS, tupG, consG, nilG, seqD, chn, isN]⟩
    | cons c0 cs =>
      have e1 := ne_ints (c0 :: cs)
      obtain ⟨c, hc⟩ := atI_ok (cs := c0 :: cs) (j := (at_ : Int) % ((c0 :: cs).length : Int)) (Int.emod_nonneg _ (by simp; try omega)) (Int.emod_lt_of_pos _ (by simp; try omega))
      have hp : (0 : Int) < ((c0 :: cs).length : Int) := by simp; try omega
      generalize hz : c0 :: cs = zs at e1 hc hp
      have hz2 : zs.isEmpty = false := by subst hz; rfl
      rw [hz2] at e1
      refine ⟨c, ?_⟩
      generalize hys : zs.map D.int = ys at e1 hc
      have hly : (zs.length : Int) = (ys.length : Int) := by rw [← hys]; simp
      rw [hly] at hc hp
      have hn : 0 < ys.length := by omega
      simp [neX_lst, pen, hys, e1, hc, hn, defF, bodyF, seqS, ifSt, toS, tst, bin, slt, opv, con, cont, Out.bind, lift, deref, ixG, sqD, at0, at1, at2, ordG, asB, asI, asgS, canSet, isIo, cal, consS, nilS, derefs, int1G, icG, modOk, divOk, putS, owned, modS, ownAt, keepK, setK, L2.ixN, retS, retF, var, mrg, List.replicate, skip, addG, lenG, lstS, tupS, andT, orT, notT, andS, orS, notS, ifS, mulOk_l, big64, absG, iiG, callS, callN, valA, ioA, starA, argSV, argSVs, ios, upA, ownS, listG, parS, un, negG, appS, appD, isL, nmG, setS, tupG, consG, nilG, seqD, chn, isN]
  obtain ⟨c, hc⟩ := cell
  rw [seqS_nx hc]
  have pw : powOk 10 18 = true := by decide
  obtain ⟨a, ha⟩ : ∃ a : Int, (if c < 0 then -c else c) = a := ⟨_, rfl⟩
  obtain ⟨k, hk⟩ : ∃ k : Int, (if c < 0 then (1 : Int) else 0) = k := ⟨_, rfl⟩
  by_cases h12 : at_ < cs.length ∧ (1000000000000000000 : Int) ≤ a
  · obtain ⟨h1, h2⟩ := h12
    refine ⟨(2 * (a - 1000000000000000000) + k) % m, (2 * (a - 1000000000000000000) + k) / m, [.un, .val (.int at_), .val (.int c), .val (.int (2 * (a - 1000000000000000000) + k)), .un], seqS_rt ?_, rm _⟩
    simp [pen, h1, ha, hk, h2, pw, hm, hm2, defF, bodyF, seqS, ifSt, toS, tst, bin, slt, opv, con, cont, Out.bind, lift, deref, ixG, sqD, at0, at1, at2, ordG, asB, asI, asgS, canSet, isIo, cal, consS, nilS, derefs, int1G, icG, modOk, divOk, putS, owned, modS, ownAt, keepK, setK, L2.ixN, retS, retF, var, mrg, List.replicate, skip, addG, lenG, lstS, tupS, andT, orT, notT, andS, orS, notS, ifS, mulOk_l, big64, absG, iiG, callS, callN, valA, ioA, starA, argSV, argSVs, ios, upA, ownS, listG, parS, un, negG, appS, appD, isL, nmG, setS, tupG, consG, nilG, seqD, chn, isN]
  rw [seqS_nx (ρ' := [.io (pen cs (at_ + 1) g), .val (.int m), .un, .val (.int at_), .val (.int c), .un, .un]) (by
    by_cases h1 : at_ < cs.length
    · have h2 : ¬ (1000000000000000000 : Int) ≤ a := fun z => h12 ⟨h1, z⟩
      simp [pen, h1, ha, h2, pw, defF, bodyF, seqS, ifSt, toS, tst, bin, slt, opv, con, cont, Out.bind, lift, deref, ixG, sqD, at0, at1, at2, ordG, asB, asI, asgS, canSet, isIo, cal, consS, nilS, derefs, int1G, icG, modOk, divOk, putS, owned, modS, ownAt, keepK, setK, L2.ixN, retS, retF, var, mrg, List.replicate, skip, addG, lenG, lstS, tupS, andT, orT, notT, andS, orS, notS, ifS, mulOk_l, big64, absG, iiG, callS, callN, valA, ioA, starA, argSV, argSVs, ios, upA, ownS, listG, parS, un, negG, appS, appD, isL, nmG, setS, tupG, consG, nilG, seqD, chn, isN]
    · simp [pen, h1, pw, defF, bodyF, seqS, ifSt, toS, tst, bin, slt, opv, con, cont, Out.bind, lift, deref, ixG, sqD, at0, at1, at2, ordG, asB, asI, asgS, canSet, isIo, cal, consS, nilS, derefs, int1G, icG, modOk, divOk, putS, owned, modS, ownAt, keepK, setK, L2.ixN, retS, retF, var, mrg, List.replicate, skip, addG, lenG, lstS, tupS, andT, orT, notT, andS, orS, notS, ifS, mulOk_l, big64, absG, iiG, callS, callN, valA, ioA, starA, argSV, argSVs, ios, upA, ownS, listG, parS, un, negG, appS, appD, isL, nmG, setS, tupG, consG, nilG, seqD, chn, isN])]
  have b0 := Int.emod_nonneg c (b := 2147483629) (by omega)
  have b1 := Int.emod_lt_of_pos c (b := 2147483629) (by omega)
  generalize hx : c % 2147483629 = x at b0 b1
  have p1 : powOk (x + 47914 * (at_ : Int) + 422) 5 = true := by
    unfold powOk
    rw [decide_eq_true_eq]
    omega
  obtain ⟨y, hy, y0, y1⟩ : ∃ y : Int, ((x + 47914 * (at_ : Int) + 422) ^ 5) % 2147483543 = y ∧ 0 ≤ y ∧ y < 2147483543 := ⟨_, rfl, Int.emod_nonneg _ (by omega), Int.emod_lt_of_pos _ (by omega)⟩
  rw [seqS_nx (ρ' := [.io (pen cs (at_ + 1) g), .val (.int m), .un, .val (.int at_), .val (.int c), .un, .val (.int y)]) (by simp [pen, hx, p1, hy, defF, bodyF, seqS, ifSt, toS, tst, bin, slt, opv, con, cont, Out.bind, lift, deref, ixG, sqD, at0, at1, at2, ordG, asB, asI, asgS, canSet, isIo, cal, consS, nilS, derefs, int1G, icG, modOk, divOk, putS, owned, modS, ownAt, keepK, setK, L2.ixN, retS, retF, var, mrg, List.replicate, skip, addG, lenG, lstS, tupS, andT, orT, notT, andS, orS, notS, ifS, mulOk_l, big64, absG, iiG, callS, callN, valA, ioA, starA, argSV, argSVs, ios, upA, ownS, listG, parS, un, negG, appS, appD, isL, nmG, setS, tupG, consG, nilG, seqD, chn, isN])]
  have q0 : 0 ≤ y * (2 * (at_ : Int) + 137) := Int.mul_nonneg y0 (by omega)
  have q1 : y * (2 * (at_ : Int) + 137) ≤ 4503893610317638 := Int.le_trans (Int.mul_le_mul (c := 2147483542) (d := 2097289) (by omega) (by omega) (by omega) (by omega)) (by decide +kernel)
  have q2 : 0 ≤ 53228 * (at_ : Int) * at_ := Int.mul_nonneg (by omega) (by omega)
  have q3 : 53228 * (at_ : Int) * at_ ≤ 58524804923260928 := Int.le_trans (Int.mul_le_mul (c := 55813603328) (d := 1048576) (by omega) (by omega) (by omega) (by omega)) (by decide +kernel)
  have m1 : mulOk y (2 * (at_ : Int) + 137) = true := mulOk_l (by unfold big64; omega)
  have m2 : mulOk (53228 * (at_ : Int)) at_ = true := mulOk_l (by unfold big64; omega)
  have p2 : powOk (y * (2 * (at_ : Int) + 137) + 53228 * (at_ : Int) * at_ + 94) 3 = true := by
    unfold powOk
    rw [decide_eq_true_eq]
    omega
  obtain ⟨z, hz, z0, z1⟩ : ∃ z : Int, ((y * (2 * (at_ : Int) + 137) + 53228 * (at_ : Int) * at_ + 94) ^ 3) % 2147483477 = z ∧ 0 ≤ z ∧ z < 2147483477 := ⟨_, rfl, Int.emod_nonneg _ (by omega), Int.emod_lt_of_pos _ (by omega)⟩
  generalize hw : y * (2 * (at_ : Int) + 137) + 53228 * (at_ : Int) * at_ + 94 = w at p2 hz
  have e1 := ze3 (ze3 (ze1 (pen cs (at_ + 1) g) m at_ c y m1) (ze2 (pen cs (at_ + 1) g) m at_ c y m2)) (g := con (.int 94)) (ρ := [.io (pen cs (at_ + 1) g), .val (.int m), .un, .val (.int at_), .val (.int c), .un, .val (.int y)]) rfl
  rw [hw] at e1
  rw [seqS_nx (ze4 (pen cs (at_ + 1) g) m at_ c y z w _ e1 p2 hz)]
  exact ⟨z / 32 % m, g, [.un, .val (.int at_), .val (.int c), .un, .val (.int z)], ze5 (pen cs (at_ + 1) g) m at_ c z hm, rm _⟩
theorem draw_sp {b : Nat} {p : D} {m : Int} (h : PenOk b p) (hb : b ≤ 1048576) (hm : 0 < m) (hm2 : m < 1073741824) : ∃ r p', F_draw [.io p, .val (.int m)] = .ret false (.int r) [.io p', .val (.int m)] ∧ 0 ≤ r ∧ r < m ∧ PenOk (b + 1) p' := by
  obtain ⟨cs, a, g, rfl, h1, h2⟩ := h
  by_cases hg : 0 < g
  · exact ⟨_, _, draw_a cs a g m hg hm hm2, Int.emod_nonneg _ (by omega), Int.emod_lt_of_pos _ hm, cs, a, _, rfl, by omega, h2⟩
  · obtain ⟨r, g', e, e1, e2⟩ := draw_b cs h2 a g m hg (by omega) hm hm2
    exact ⟨r, _, e, e1, e2, cs, a + 1, g', rfl, by omega, h2⟩
theorem pick_sp {b : Nat} {p : D} {ds : List D} (h : PenOk b p) (hb : b ≤ 1048576) (h0 : 0 < ds.length) (hl : ds.length < 1073741824) : ∃ d p', F_pick [.io p, .val (.lst ds)] = .ret false d [.io p', .val (.lst ds)] ∧ d ∈ ds ∧ PenOk (b + 1) p' := by
  obtain ⟨r, p', e, e1, e2, e3⟩ := draw_sp (m := (ds.length : Int)) h hb (by omega) (by omega)
  obtain ⟨d, hd⟩ : ∃ d, ds[r.toNat]? = some d := ⟨_, List.getElem?_eq_getElem (by omega)⟩
  have hat : L2.atI ds r = some d := by
    unfold L2.atI L2.ixN
    rw [if_pos e1, if_pos e2]
    exact hd
  refine ⟨d, p', ?_, List.mem_of_getElem? hd, e3⟩
  simp [F_pick, B_pick, e, hat, defF, bodyF, seqS, ifSt, toS, tst, bin, slt, opv, con, cont, Out.bind, lift, deref, ixG, sqD, at0, at1, at2, ordG, asB, asI, asgS, canSet, isIo, cal, consS, nilS, derefs, int1G, icG, modOk, divOk, putS, owned, modS, ownAt, keepK, setK, L2.ixN, retS, retF, var, mrg, List.replicate, skip, addG, lenG, lstS, tupS, andT, orT, notT, andS, orS, notS, ifS, mulOk_l, big64, absG, iiG, callS, callN, valA, ioA, starA, argSV, argSVs, ios, upA, ownS, listG, parS, un, negG, appS, appD, isL, nmG, setS, tupG, consG, nilG, seqD, chn, isN]
end K01
namespace K01
open PySem Kd Pg Kq PyProof.Rows
/-! ## errors made and looked at -/
def names : List Str := ["BadWord", "BadPlace", "BadTruth", "BadCount", "BadLimit", "BadOrder", "BadGroup", "BadTree", "Unlike", "BadBook", "BadNode", "BadList", "NoWord", "Taken", "BadCommand", "NoName", "BadText", "NotPhrase", "Breaks", "Clash", "TooMany", "NoChange", "LastOrder"]
def sing (d : D) : List D := [.exc "BadWord" ["value"] [d], .exc "BadPlace" ["value"] [d], .exc "BadTruth" ["value"] [d], .exc "BadCount" ["value"] [d], .exc "BadLimit" ["value"] [d], .exc "BadOrder" ["part"] [d], .exc "BadGroup" ["part"] [d], .exc "BadTree" ["part"] [d], .exc "Unlike" ["part"] [d], .exc "BadBook" ["at"] [d], .exc "BadNode" ["at"] [d], .exc "BadList" ["at"] [d], .exc "NoWord" ["word"] [d], .exc "Taken" ["word"] [d], .exc "BadCommand" ["word"] [d], .exc "NoName" ["name"] [d]]
def doub (d e : D) : List D := [.exc "BadText" ["line", "word"] [d, e], .exc "NotPhrase" ["group", "pull"] [d, e], .exc "Breaks" ["group", "pull"] [d, e], .exc "Clash" ["run", "chain"] [d, e], .exc "TooMany" ["what", "most"] [d, e]]
theorem sing_ok (d : D) (b : Bool) : F_singles [.val d, .val (.bl b)] = .ret false (.lst (sing d)) [.val d, .val (.bl b)] := by
  cases b <;> kernel_rfl
theorem doub_ok (d e : D) (b : Bool) : F_doubles [.val d, .val e, .val (.bl b)] = .ret false (.lst (doub d e)) [.val d, .val e, .val (.bl b)] := by
  cases b <;> kernel_rfl
theorem sf_ok (d : D) : F_single_fields [.val (.lst (sing d))] = .ret false (.lst (List.replicate 16 d)) [.val (.lst (sing d))] := by kernel_rfl
theorem df_ok (d e : D) : F_double_fields [.val (.lst (doub d e))] = .ret false (.lst (List.replicate 5 (.lst [d, e]))) [.val (.lst (doub d e))] := by kernel_rfl
theorem kinds_ok (n : Str) (ks : List Str) (ds : List D) : F_kinds [.val (.exc n ks ds)] = .ret false (.lst ((names.map fun c => decide (c ∈ supP n)).map .bl)) [.val (.exc n ks ds)] := by kernel_rfl
def BK (k : Nat) : List Bool := (List.range 23).map fun j => decide (k = j)
theorem names_ok : (List.range 23).all (fun k => match names[k]? with
    | some n => decide ((names.map fun c => decide (c ∈ supP n)) = BK k) && decide (("PhraseError" : Str) ∈ supP n)
    | none => false) = true := by decide +kernel
theorem kinds_at {k : Nat} {n : Str} (e : names[k]? = some n) (ks : List Str) (ds : List D) : F_kinds [.val (.exc n ks ds)] = .ret false (.lst ((BK k).map .bl)) [.val (.exc n ks ds)] ∧ isiG supP [.exc n ks ds, .cls "PhraseError"] = some (.bl true) := by
  have hk : k < 23 := (List.getElem?_eq_some_iff.mp e).1
  have h := List.all_eq_true.mp names_ok k (List.mem_range.mpr hk)
  rw [e] at h
  have h : (decide ((names.map fun c => decide (c ∈ supP n)) = BK k) && decide (("PhraseError" : Str) ∈ supP n)) = true := h
  rw [Bool.and_eq_true, decide_eq_true_eq, decide_eq_true_eq] at h
  refine ⟨by rw [kinds_ok, h.1], ?_⟩
  show some (D.bl (decide (("PhraseError" : Str) ∈ supP n))) = _
  rw [decide_eq_true h.2]
theorem sub0 : sub_PhraseError "NoChange" = true := by decide +kernel
theorem sub1 : sub_PhraseError "LastOrder" = true := by decide +kernel
theorem sub2 : sub_PhraseError "TooMany" = true := by decide +kernel
theorem at21 : names[21]? = some ("NoChange" : Str) := by decide +kernel
theorem at22 : names[22]? = some ("LastOrder" : Str) := by decide +kernel
theorem at20 : names[20]? = some ("TooMany" : Str) := by decide +kernel
theorem caught0 : F_caught [.val (.int 0)] = .ret false (.lst ((BK 21).map .bl)) [.val (.int 0)] := by
  refine FOut.eqW ?_
  unfold F_caught B_caught
  rw [w_defF (by rfl)]
  have k0 := (kinds_at at21 [] []).1
  generalize (BK 21).map D.bl = M at k0
  simp only [↓wRules, ↓wRules2, ↓wRules3, ↓wOwn, wSlots, wOps, wOwn2, if_true, if_false, ite_true, ite_false, eq_self, ne_eq, ofS_inj, wLib, reduceIte, reduceCtorEq, Nat.reduceEqDiff, Nat.reduceAdd, Nat.reduceLeDiff, Nat.reduceLT, Nat.reduceSub, Int.reduceEq, Int.reduceLE, Int.reduceLT, Int.reduceAdd, Int.reduceSub, Int.reduceNeg, Int.reduceMul, Int.reduceToNat, String.reduceEq, String.reduceNe, wErr, sub0, k0]
theorem caught1 : F_caught [.val (.int 1)] = .ret false (.lst ((BK 22).map .bl)) [.val (.int 1)] := by
  refine FOut.eqW ?_
  unfold F_caught B_caught
  rw [w_defF (by rfl)]
  have k0 := (kinds_at at22 [] []).1
  generalize (BK 22).map D.bl = M at k0
  simp only [↓wRules, ↓wRules2, ↓wRules3, ↓wOwn, wSlots, wOps, wOwn2, if_true, if_false, ite_true, ite_false, eq_self, ne_eq, ofS_inj, wLib, reduceIte, reduceCtorEq, Nat.reduceEqDiff, Nat.reduceAdd, Nat.reduceLeDiff, Nat.reduceLT, Nat.reduceSub, Int.reduceEq, Int.reduceLE, Int.reduceLT, Int.reduceAdd, Int.reduceSub, Int.reduceNeg, Int.reduceMul, Int.reduceToNat, String.reduceEq, String.reduceNe, wErr, sub1, k0]
theorem caught2 : F_caught [.val (.int 2)] = .ret false (.lst ((BK 20).map .bl)) [.val (.int 2)] := by
  refine FOut.eqW ?_
  unfold F_caught B_caught
  rw [w_defF (by rfl)]
  have k0 := (kinds_at at20 ["what", "most"] [.str "orders", .int 2]).1
  generalize (BK 20).map D.bl = M at k0
  simp only [↓wRules, ↓wRules2, ↓wRules3, ↓wOwn, wSlots, wOps, wOwn2, if_true, if_false, ite_true, ite_false, eq_self, ne_eq, ofS_inj, wLib, reduceIte, reduceCtorEq, Nat.reduceEqDiff, Nat.reduceAdd, Nat.reduceLeDiff, Nat.reduceLT, Nat.reduceSub, Int.reduceEq, Int.reduceLE, Int.reduceLT, Int.reduceAdd, Int.reduceSub, Int.reduceNeg, Int.reduceMul, Int.reduceToNat, String.reduceEq, String.reduceNe, wErr, sub2, k0]
end K01
namespace K01
open PySem PySem.Spec PyProof.Rows L2 Kq StX ClX LamX Kd
open Pg
def top (i : Nat) : Stmt := PySem.Challenge.pw_keptphrases_k01_errors_apart.main.body.getD i (.Pass ⟨0, 0, 0, 0⟩)
abbrev st_pen : Stmt := top 26
abbrev N_pen : List Str := ["_law_script"]
abbrev ps_pen : List Str := ["_law_script"]
theorem sc_pen : FnScope N_pen ps_pen (defScope st_pen) := ⟨rfl, rfl, rfl, by decide +kernel, rfl, by decide +kernel, by decide +kernel⟩
abbrev st_kinds : Stmt := top 34
abbrev N_kinds : List Str := ["_law_error"]
abbrev ps_kinds : List Str := ["_law_error"]
theorem sc_kinds : FnScope N_kinds ps_kinds (defScope st_kinds) := ⟨rfl, rfl, rfl, by decide +kernel, rfl, by decide +kernel, by decide +kernel⟩
abbrev st_caught : Stmt := top 35
abbrev N_caught : List Str := ["_law_way", "_law_error"]
abbrev ps_caught : List Str := ["_law_way"]
theorem sc_caught : FnScope N_caught ps_caught (defScope st_caught) := ⟨rfl, rfl, rfl, by decide +kernel, rfl, by decide +kernel, by decide +kernel⟩
abbrev st_draw : Stmt := top 27
abbrev N_draw : List Str := ["_law_pen_here", "_law_many", "_law_digit", "_law_k", "_law_cell", "_law_great", "_law_mixed"]
abbrev ps_draw : List Str := ["_law_pen_here", "_law_many"]
theorem sc_draw : FnScope N_draw ps_draw (defScope st_draw) := ⟨rfl, rfl, rfl, by decide +kernel, rfl, by decide +kernel, by decide +kernel⟩
abbrev st_pick : Stmt := top 28
abbrev N_pick : List Str := ["_law_pen_here", "_law_some"]
abbrev ps_pick : List Str := ["_law_pen_here", "_law_some"]
theorem sc_pick : FnScope N_pick ps_pick (defScope st_pick) := ⟨rfl, rfl, rfl, by decide +kernel, rfl, by decide +kernel, by decide +kernel⟩
abbrev st_value : Stmt := top 29
abbrev N_value : List Str := ["_law_pen_here", "_law_some"]
abbrev ps_value : List Str := ["_law_pen_here"]
theorem sc_value : FnScope N_value ps_value (defScope st_value) := ⟨rfl, rfl, rfl, by decide +kernel, rfl, by decide +kernel, by decide +kernel⟩
abbrev st_singles : Stmt := top 30
abbrev N_singles : List Str := ["_law_thing", "_law_is_named"]
abbrev ps_singles : List Str := ["_law_thing", "_law_is_named"]
theorem sc_singles : FnScope N_singles ps_singles (defScope st_singles) := ⟨rfl, rfl, rfl, by decide +kernel, rfl, by decide +kernel, by decide +kernel⟩
abbrev st_doubles : Stmt := top 31
abbrev N_doubles : List Str := ["_law_thing", "_law_other", "_law_is_named"]
abbrev ps_doubles : List Str := ["_law_thing", "_law_other", "_law_is_named"]
theorem sc_doubles : FnScope N_doubles ps_doubles (defScope st_doubles) := ⟨rfl, rfl, rfl, by decide +kernel, rfl, by decide +kernel, by decide +kernel⟩
abbrev st_single_fields : Stmt := top 32
abbrev N_single_fields : List Str := ["_law_some"]
abbrev ps_single_fields : List Str := ["_law_some"]
theorem sc_single_fields : FnScope N_single_fields ps_single_fields (defScope st_single_fields) := ⟨rfl, rfl, rfl, by decide +kernel, rfl, by decide +kernel, by decide +kernel⟩
abbrev st_double_fields : Stmt := top 33
abbrev N_double_fields : List Str := ["_law_some"]
abbrev ps_double_fields : List Str := ["_law_some"]
theorem sc_double_fields : FnScope N_double_fields ps_double_fields (defScope st_double_fields) := ⟨rfl, rfl, rfl, by decide +kernel, rfl, by decide +kernel, by decide +kernel⟩
abbrev st_law : Stmt := top 36
abbrev N_law : List Str := ["_law_script", "_law_pen_here", "_law_turn", "_law_thing", "_law_other", "_law_is_named", "_law_singles_here", "_law_doubles_here", "_law_errors", "_law_k", "_law_error", "_law_each", "_law_heard", "_law_way"]
abbrev ps_law : List Str := ["_law_script"]
theorem sc_law : FnScope N_law ps_law (defScope st_law) := ⟨rfl, rfl, rfl, by decide +kernel, rfl, by decide +kernel, by decide +kernel⟩
structure Tx (c : Cn) (P : Program) (w : World) (K : PySem.W.Frag) (mg : Str → Option Value) (base : Heap) : Prop where
  kK : K = c.K
  sy : ∃ o, base.get? sysModules = some o
  n_list : mg "list" = none
  k_LastOrder : GKn c mg "LastOrder"
  iso : IsOk c K supP
  n_isinstance : mg "isinstance" = none
  k_NoChange : GKn c mg "NoChange"
  k_TooMany : GKn c mg "TooMany"
  k_Clash : GKn c mg "Clash"
  k_Breaks : GKn c mg "Breaks"
  k_NotPhrase : GKn c mg "NotPhrase"
  k_BadText : GKn c mg "BadText"
  k_NoName : GKn c mg "NoName"
  k_BadCommand : GKn c mg "BadCommand"
  k_Taken : GKn c mg "Taken"
  k_NoWord : GKn c mg "NoWord"
  k_BadList : GKn c mg "BadList"
  k_BadNode : GKn c mg "BadNode"
  k_BadBook : GKn c mg "BadBook"
  k_Unlike : GKn c mg "Unlike"
  k_BadTree : GKn c mg "BadTree"
  k_BadGroup : GKn c mg "BadGroup"
  k_BadOrder : GKn c mg "BadOrder"
  k_BadLimit : GKn c mg "BadLimit"
  k_BadCount : GKn c mg "BadCount"
  k_BadTruth : GKn c mg "BadTruth"
  k_BadPlace : GKn c mg "BadPlace"
  k_BadWord : GKn c mg "BadWord"
  e_TooMany : GEr c P w K mg "TooMany" ["what", "most"]
  e0_LastOrder : GEr0 c K mg "LastOrder"
  e0_NoChange : GEr0 c K mg "NoChange"
  s_PhraseError : ∃ C, mg "PhraseError" = some (.ref C) ∧ SubOk c K (.ref C) sub_PhraseError
  n_int : mg "int" = none
  n_abs : mg "abs" = none
  n_len : mg "len" = none
  e_NoName : GEr c P w K mg "NoName" ["name"]
  e_BadCommand : GEr c P w K mg "BadCommand" ["word"]
  e_Taken : GEr c P w K mg "Taken" ["word"]
  e_NoWord : GEr c P w K mg "NoWord" ["word"]
  e_BadList : GEr c P w K mg "BadList" ["at"]
  e_BadNode : GEr c P w K mg "BadNode" ["at"]
  e_BadBook : GEr c P w K mg "BadBook" ["at"]
  e_Unlike : GEr c P w K mg "Unlike" ["part"]
  e_BadTree : GEr c P w K mg "BadTree" ["part"]
  e_BadGroup : GEr c P w K mg "BadGroup" ["part"]
  e_BadOrder : GEr c P w K mg "BadOrder" ["part"]
  e_BadLimit : GEr c P w K mg "BadLimit" ["value"]
  e_BadCount : GEr c P w K mg "BadCount" ["value"]
  e_BadTruth : GEr c P w K mg "BadTruth" ["value"]
  e_BadPlace : GEr c P w K mg "BadPlace" ["value"]
  e_BadWord : GEr c P w K mg "BadWord" ["value"]
  eN_NoName : GErN c P w K mg "NoName" ["name"]
  eN_BadCommand : GErN c P w K mg "BadCommand" ["word"]
  eN_Taken : GErN c P w K mg "Taken" ["word"]
  eN_NoWord : GErN c P w K mg "NoWord" ["word"]
  eN_BadList : GErN c P w K mg "BadList" ["at"]
  eN_BadNode : GErN c P w K mg "BadNode" ["at"]
  eN_BadBook : GErN c P w K mg "BadBook" ["at"]
  eN_Unlike : GErN c P w K mg "Unlike" ["part"]
  eN_BadTree : GErN c P w K mg "BadTree" ["part"]
  eN_BadGroup : GErN c P w K mg "BadGroup" ["part"]
  eN_BadOrder : GErN c P w K mg "BadOrder" ["part"]
  eN_BadLimit : GErN c P w K mg "BadLimit" ["value"]
  eN_BadCount : GErN c P w K mg "BadCount" ["value"]
  eN_BadTruth : GErN c P w K mg "BadTruth" ["value"]
  eN_BadPlace : GErN c P w K mg "BadPlace" ["value"]
  eN_BadWord : GErN c P w K mg "BadWord" ["value"]
  e_Clash : GEr c P w K mg "Clash" ["run", "chain"]
  e_Breaks : GEr c P w K mg "Breaks" ["group", "pull"]
  e_NotPhrase : GEr c P w K mg "NotPhrase" ["group", "pull"]
  e_BadText : GEr c P w K mg "BadText" ["line", "word"]
  eN_TooMany : GErN c P w K mg "TooMany" ["what", "most"]
  eN_Clash : GErN c P w K mg "Clash" ["run", "chain"]
  eN_Breaks : GErN c P w K mg "Breaks" ["group", "pull"]
  eN_NotPhrase : GErN c P w K mg "NotPhrase" ["group", "pull"]
  eN_BadText : GErN c P w K mg "BadText" ["line", "word"]
  x_name : XfdOk c K "name"
  x_word : XfdOk c K "word"
  x_at : XfdOk c K "at"
  x_part : XfdOk c K "part"
  x_value : XfdOk c K "value"
  x_most : XfdOk c K "most"
  x_what : XfdOk c K "what"
  x_chain : XfdOk c K "chain"
  x_run : XfdOk c K "run"
  x_pull : XfdOk c K "pull"
  x_group : XfdOk c K "group"
  x_line : XfdOk c K "line"
  n_range : mg "range" = none
  n_repr : mg "repr" = none
  n_enumerate : mg "enumerate" = none
  n_ValueError : mg "ValueError" = none
  vok : VeOk c K
  k_PhraseError : GKn c mg "PhraseError"
end K01
namespace K01
open PySem Kd Pg Kq PyProof.Rows
theorem pen_sp (ns : List Int) (h : ns.length ≤ 63) : F_pen [.val (.scr ns)] = .ret true (pen ns 0 0) [.val (.scr ns)] := by
  refine FOut.eqW ?_
  unfold F_pen B_pen
  rw [w_defF (by rfl)]
  have e1 : slG (.scr ns) none (some 63) = some (.lst (ns.map .int)) := by
    show some (D.lst (cutD (ns.map .int) none (some 63))) = _
    rw [cut_take (by omega), List.take_of_length_le (by rw [List.length_map]; exact h)]
  simp only [↓wRules, ↓wRules2, ↓wRules3, ↓wOwn, wSlots, wOps, wOwn2, if_true, if_false, ite_true, ite_false, eq_self, ne_eq, ofS_inj, wLib, reduceIte, reduceCtorEq, Nat.reduceEqDiff, Nat.reduceAdd, Nat.reduceLeDiff, Nat.reduceLT, Nat.reduceSub, Int.reduceEq, Int.reduceLE, Int.reduceLT, Int.reduceAdd, Int.reduceSub, Int.reduceNeg, Int.reduceMul, Int.reduceToNat, String.reduceEq, String.reduceNe, e1]
  rfl
def vals : List D := [.non, .bl true, .bl false, .int 0, .int (-1), .int (10 ^ 39), .str "", .str "a", .str "a b", .str "words", .lst [.str "a"], .tup [.str "a", .int 1], .dct [.inr "a"] [.non], .lst [.lst []]]
abbrev TN : Tb := [(.inr "a", .non)]
theorem value_sp {b : Nat} {p : D} (h : PenOk b p) (hb : b ≤ 1000000) : ∃ d p', F_value [.io p] = .ret false d [.io p'] ∧ d ∈ vals ∧ PenOk (b + 1) p' := by
  obtain ⟨d, p', e, m, h'⟩ := pick_sp (ds := vals) h (by omega) (by decide) (by decide)
  refine ⟨d, p', FOut.eqW ?_, m, h'⟩
  unfold F_value B_value
  rw [w_defF (by rfl)]
  have pw : icG powOk (fun i j => D.int (i ^ j.toNat)) (.int 10) (.int 39) = some (.int (10 ^ 39)) := by kernel_rfl
  have ng : negG (.int 1) = some (.int (-1)) := rfl
  have e : F_pick [.io p, .val (.lst [.non, .bl true, .bl false, .int 0, .int (-1), .int (10 ^ 39), .str "", .str "a", .str "a b", .str "words", .lst [.str "a"], .tup [.str "a", .int 1], .dct [.inr "a"] [.non], .lst [.lst []]])] = .ret false d [.io p', .val (.lst [.non, .bl true, .bl false, .int 0, .int (-1), .int (10 ^ 39), .str "", .str "a", .str "a b", .str "words", .lst [.str "a"], .tup [.str "a", .int 1], .dct [.inr "a"] [.non], .lst [.lst []]])] := e
  generalize (10 : Int) ^ 39 = G at pw e
  simp only [↓wRules, ↓wRules2, ↓wRules3, ↓wOwn, wSlots, wOps, wOwn2, if_true, if_false, ite_true, ite_false, eq_self, ne_eq, ofS_inj, wLib, reduceIte, reduceCtorEq, Nat.reduceEqDiff, Nat.reduceAdd, Nat.reduceLeDiff, Nat.reduceLT, Nat.reduceSub, Int.reduceEq, Int.reduceLE, Int.reduceLT, Int.reduceAdd, Int.reduceSub, Int.reduceNeg, Int.reduceMul, Int.reduceToNat, String.reduceEq, String.reduceNe, pw, ng, e]
/-- small under the table -/
def okT (d : D) : Bool := match pyT TN d with
  | some q => q.showable && (decide (q.depth ≤ 8) && decide (q.shown.length ≤ 20000))
  | none => false
theorem okT_sm {d : D} (h : okT d = true) : ∃ q, pyT TN d = some q ∧ Sm q := by
  unfold okT at h
  cases e : pyT TN d with
  | none => rw [e] at h; cases h
  | some q =>
    rw [e] at h
    simp only [Bool.and_eq_true, decide_eq_true_eq] at h
    exact ⟨q, rfl, h.1, h.2.1, h.2.2⟩
theorem vals_ok : vals.all okT = true := by kernel_rfl
theorem pairs_ok : (vals.all fun d => vals.all fun e => okT (.lst [d, e])) = true := by kernel_rfl
theorem ne_bls (bs : List Bool) : neX (.lst (bs.map .bl)) (.lst (bs.map .bl)) = some (.bl false) := by
  have e1 : ∀ bs : List Bool, pyNs (bs.map D.bl) = some (bs.map .bool) := by
    intro bs
    induction bs with
    | nil => rfl
    | cons b bs ih => rw [List.map_cons, pyNs, ih]; rfl
  have e2 : ∀ bs : List Bool, PyData.eqvAll (bs.map .bool) (bs.map .bool) = true := by
    intro bs
    induction bs with
    | nil => rfl
    | cons b bs ih => rw [List.map_cons, PyData.eqvAll, ih, PyData.eqv]; simp
  have e3 : ∀ bs : List Bool, PyData.canLayAll0 (bs.map .bool) = true := by
    intro bs
    induction bs with
    | nil => rfl
    | cons b bs ih => rw [List.map_cons, PyData.canLayAll0, ih, PyData.canLay0]; rfl
  have e4 : ∀ bs : List Bool, PyData.depthAll (bs.map .bool) ≤ 1 := by
    intro bs
    induction bs with
    | nil => simp [PyData.depthAll]
    | cons b bs ih => rw [List.map_cons, PyData.depthAll, PyData.depth]; omega
  have h1 : SeqAt.shaped (.list (bs.map .bool)) = true := by
    unfold SeqAt.shaped
    rw [Bool.and_eq_true]
    refine ⟨by rw [PyData.canLay0]; exact e3 bs, decide_eq_true ?_⟩
    have := e4 bs
    rw [PyData.depth]
    omega
  have p1 : pyN (.lst (bs.map .bl)) = some (.list (bs.map .bool)) := by simp [pyN, e1]
  rw [neX_lst]
  unfold neG
  rw [p1]
  dsimp only
  rw [if_pos ⟨h1, h1⟩, PyData.eqv, e2]
  rfl
/-- all errors, each of its class -/
def errs (d e : D) : List D := sing d ++ doub d e ++ [.exc "NoChange" [] [], .exc "LastOrder" [] []]
theorem errs_len (d e : D) : (errs d e).length = 23 := rfl
theorem errs_at (d e : D) : ∀ k < 23, ∃ n ks ds, names[k]? = some n ∧ (errs d e)[k]? = some (.exc n ks ds) := by
  intro k hk
  match k, hk with
  | 0, _ => exact ⟨_, _, _, rfl, rfl⟩
  | 1, _ => exact ⟨_, _, _, rfl, rfl⟩
  | 2, _ => exact ⟨_, _, _, rfl, rfl⟩
  | 3, _ => exact ⟨_, _, _, rfl, rfl⟩
  | 4, _ => exact ⟨_, _, _, rfl, rfl⟩
  | 5, _ => exact ⟨_, _, _, rfl, rfl⟩
  | 6, _ => exact ⟨_, _, _, rfl, rfl⟩
  | 7, _ => exact ⟨_, _, _, rfl, rfl⟩
  | 8, _ => exact ⟨_, _, _, rfl, rfl⟩
  | 9, _ => exact ⟨_, _, _, rfl, rfl⟩
  | 10, _ => exact ⟨_, _, _, rfl, rfl⟩
  | 11, _ => exact ⟨_, _, _, rfl, rfl⟩
  | 12, _ => exact ⟨_, _, _, rfl, rfl⟩
  | 13, _ => exact ⟨_, _, _, rfl, rfl⟩
  | 14, _ => exact ⟨_, _, _, rfl, rfl⟩
  | 15, _ => exact ⟨_, _, _, rfl, rfl⟩
  | 16, _ => exact ⟨_, _, _, rfl, rfl⟩
  | 17, _ => exact ⟨_, _, _, rfl, rfl⟩
  | 18, _ => exact ⟨_, _, _, rfl, rfl⟩
  | 19, _ => exact ⟨_, _, _, rfl, rfl⟩
  | 20, _ => exact ⟨_, _, _, rfl, rfl⟩
  | 21, _ => exact ⟨_, _, _, rfl, rfl⟩
  | 22, _ => exact ⟨_, _, _, rfl, rfl⟩
  | k + 23, h => exact absurd h (by omega)
theorem ifr (m : Nat) : Kd.intsFrom 0 m = (List.range m).map fun j : Nat => D.int (j : Nat) := by
  unfold Kd.intsFrom
  refine List.map_congr_left fun j _ => ?_
  congr 1
  omega
theorem bk_map (k : Nat) : ((List.range 23).map fun j => D.bl (decide (k = j))) = (BK k).map .bl := by unfold BK; rw [List.map_map]; rfl
theorem num_app (k : Nat) (d : D) (ds : List D) : Kd.numbered k (d :: ds) = D.tup [.int (k : Nat), d] :: Kd.numbered (k + 1) ds := rfl
def idx : Nat → Nat
  | 0 => 21
  | 1 => 22
  | _ => 20
theorem cg {i j : Int} {k n : Nat} (c : F_caught [.val (.int i)] = .ret false (.lst ((BK k).map .bl)) [.val (.int i)]) (e : j = i) (e2 : n = k) : F_caught [.val (.int j)] = .ret false (.lst ((BK n).map .bl)) [.val (.int j)] := by
  subst e; subst e2; exact c
theorem caught_at {j : Nat} (h : j ∈ List.range 3) : F_caught [.val (.int (j : Nat))] = .ret false (.lst ((BK (idx j)).map .bl)) [.val (.int (j : Nat))] := by
  have : j = 0 ∨ j = 1 ∨ j = 2 := by have := List.mem_range.mp h; omega
  rcases this with z | z | z
  · have f : idx j = 21 := by rw [z]; rfl
    have g : ((j : Nat) : Int) = 0 := by omega
    with_reducible exact cg (i := 0) (j := ((j : Nat) : Int)) (k := 21) (n := idx j) caught0 g f
  · have f : idx j = 22 := by rw [z]; rfl
    have g : ((j : Nat) : Int) = 1 := by omega
    with_reducible exact cg (i := 1) (j := ((j : Nat) : Int)) (k := 22) (n := idx j) caught1 g f
  · have f : idx j = 20 := by rw [z]; rfl
    have g : ((j : Nat) : Int) = 2 := by omega
    with_reducible exact cg (i := 2) (j := ((j : Nat) : Int)) (k := 20) (n := idx j) caught2 g f
theorem law_math (ns : List Int) (h : ns.length ≤ 63) : ∃ as, bodyF N_law.length B_law [.val (.scr ns)] = .ret false (.bl true) as := by
  suffices hh : (bodyF N_law.length B_law [.val (.scr ns)]).W noX (Ret1 fun d as => d = .bl true) by
    obtain ⟨d, as, e, rfl⟩ := FOut.eq hh
    exact ⟨as, e⟩
  rw [w_bodyF]
  have hn : N_law.length = 14 := rfl
  rw [hn]
  unfold B_law
  have b62 : big62 = 4611686018427387904 := by decide +kernel
  have rr : ∀ m : Nat, m ≤ 100 → rng1 [.int (m : Nat)] = some ((List.range m).map fun j : Nat => D.int (j : Nat)) := fun m hm =>
    (rng1_le (j := (m : Nat)) (by omega)).trans (congrArg some ((congrArg (Kd.intsFrom 0) (Int.toNat_natCast m)).trans (ifr m)))
  have r4 : rng1 [.int 4] = some (Kd.intsFrom 0 4) := rng1_le (by decide)
  obtain ⟨R23, h23⟩ : ∃ R, R = List.range 23 := ⟨_, rfl⟩
  obtain ⟨R16, h16⟩ : ∃ R, R = List.range 16 := ⟨_, rfl⟩
  obtain ⟨R5, h5'⟩ : ∃ R, R = List.range 5 := ⟨_, rfl⟩
  obtain ⟨R3, h3'⟩ : ∃ R, R = List.range 3 := ⟨_, rfl⟩
  have r23 : rng1 [.int 23] = some (R23.map fun j : Nat => D.int (j : Nat)) := by rw [h23]; exact rr 23 (by omega)
  have r16 : rng1 [.int 16] = some (R16.map fun j : Nat => D.int (j : Nat)) := by rw [h16]; exact rr 16 (by omega)
  have r5 : rng1 [.int 5] = some (R5.map fun j : Nat => D.int (j : Nat)) := by rw [h5']; exact rr 5 (by omega)
  have r3 : rng1 [.int 3] = some (R3.map fun j : Nat => D.int (j : Nat)) := by rw [h3']; exact rr 3 (by omega)
  have n23 : R23.length ≤ 4096 := by rw [h23]; simp
  have n16 : R16.length ≤ 4096 := by rw [h16]; simp
  have n5 : R5.length ≤ 4096 := by rw [h5']; simp
  have n3 : R3.length ≤ 4096 := by rw [h3']; simp
  have l4 : (Kd.intsFrom 0 4).length = 4 := rfl
  have hp0 : PenOk 0 (pen ns 0 0) := ⟨ns, 0, 0, rfl, by omega, h⟩
  simp only [↓wRules, ↓wRules2, ↓wRules3, ↓wOwn, wSlots, wOps, wOwn2, if_true, if_false, ite_true, ite_false, eq_self, ne_eq, ofS_inj, wLib, reduceIte, reduceCtorEq, Nat.reduceEqDiff, Nat.reduceAdd, Nat.reduceLeDiff, Nat.reduceLT, Nat.reduceSub, Int.reduceEq, Int.reduceLE, Int.reduceLT, Int.reduceAdd, Int.reduceSub, Int.reduceNeg, Int.reduceMul, Int.reduceToNat, String.reduceEq, String.reduceNe, pen_sp ns h, r4]
  with_reducible refine for_ind (fun ds ρ => ∃ (b : Nat) (p : D) (v2 v3 v4 v5 v6 v7 v8 v9 v10 : SV), PenOk b p ∧ b + 4 * ds.length ≤ 100 ∧ (isIo (some v2) = false ∧ isIo (some v3) = false ∧ isIo (some v4) = false ∧ isIo (some v5) = false ∧ isIo (some v6) = false ∧ isIo (some v7) = false ∧ isIo (some v8) = false ∧ isIo (some v9) = false ∧ isIo (some v10) = false) ∧ owned (some v9) = false ∧ ρ = [.val (.scr ns), .own p, v2, v3, v4, v5, v6, v7, v8, v9, v10, .un, .un, .un]) ?_ ?_ ?_
  · exact ⟨0, pen ns 0 0, .un, .un, .un, .un, .un, .un, .un, .un, .un, hp0, by rw [l4]; omega, ⟨rfl, rfl, rfl, rfl, rfl, rfl, rfl, rfl, rfl⟩, rfl, rfl⟩
  · rintro d ds ρ ⟨b, p, v2, v3, v4, v5, v6, v7, v8, v9, v10, hp, hb, ⟨i2, i3, i4, i5, i6, i7, i8, i9, i10⟩, o9, rfl⟩
    rw [List.length_cons] at hb
    obtain ⟨th, p1, e1, m1, h1⟩ := value_sp hp (by omega)
    obtain ⟨ot, p2, e2, m2, h2⟩ := value_sp h1 (by omega)
    obtain ⟨r, p3, e3, g0, g1, h3⟩ := draw_sp (m := 2) h2 (by omega) (by omega) (by omega)
    have eb : eqG false (.int r) (.int 0) = some (.bl (decide (r = 0))) := by rw [eqG_int, Bool.false_bne]
    have s1 := sing_ok th (decide (r = 0))
    have s2 := doub_ok th ot (decide (r = 0))
    have a1 : addG (.lst (sing th)) (.lst (doub th ot)) = some (.lst (sing th ++ doub th ot)) := addG_lst (by show 16 + 5 ≤ 4096; decide)
    have a2 : addG (.lst (sing th ++ doub th ot)) (.lst [.exc "NoChange" [] [], .exc "LastOrder" [] []]) = some (.lst (errs th ot)) := addG_lst (by show 21 + 2 ≤ 4096; decide)
    have f1 := sf_ok th
    have f2 := df_ok th ot
    obtain ⟨z1, hz1⟩ : ∃ z, reprGL [[(.inr "a", .non)]] [.lst (List.replicate 16 th)] = some (.str z) := reprL_lst (T := TN) (List.mem_cons_self ..) (fun d hd => by
      rw [List.eq_of_mem_replicate hd]
      exact okT_sm (List.all_eq_true.mp vals_ok _ m1)) (by simp)
    obtain ⟨z2, hz2⟩ : ∃ z, reprGL [[(.inr "a", .non)]] [.lst (List.replicate 5 (.lst [th, ot]))] = some (.str z) := reprL_lst (T := TN) (List.mem_cons_self ..) (fun d hd => by
      rw [List.eq_of_mem_replicate hd]
      exact okT_sm (List.all_eq_true.mp (List.all_eq_true.mp pairs_ok _ m1) _ m2)) (by simp)
    obtain ⟨L16, hL16⟩ : ∃ L, L = List.replicate 16 th := ⟨_, rfl⟩
    obtain ⟨L5, hL5⟩ : ∃ L, L = List.replicate 5 (D.lst [th, ot]) := ⟨_, rfl⟩
    rw [← hL16] at f1 hz1
    rw [← hL5] at f2 hz2
    have el := errs_len th ot
    have ea := errs_at th ot
    generalize sing th = S at s1 a1 a2 f1
    generalize doub th ot = B at s2 a1 a2 f2
    generalize S ++ B = SB at a1 a2
    generalize errs th ot = EE at a2 el ea
    simp only [↓wRules, ↓wRules2, ↓wRules3, ↓wOwn, wSlots, wOps, wOwn2, if_true, if_false, ite_true, ite_false, eq_self, ne_eq, ofS_inj, wLib, reduceIte, reduceCtorEq, Nat.reduceEqDiff, Nat.reduceAdd, Nat.reduceLeDiff, Nat.reduceLT, Nat.reduceSub, Int.reduceEq, Int.reduceLE, Int.reduceLT, Int.reduceAdd, Int.reduceSub, Int.reduceNeg, Int.reduceMul, Int.reduceToNat, String.reduceEq, String.reduceNe, i2, i3, i4, i5, i6, i7, i8, i9, i10, e1, e2, e3, eb, s1, s2, a1, a2]
    with_reducible refine for_ind (fun ds' ρ => ∃ (k : Nat) (v9 v10 : SV), k ≤ 23 ∧ ds' = Kd.numbered k (EE.drop k) ∧ (isIo (some v9) = false ∧ isIo (some v10) = false) ∧ owned (some v9) = false ∧ ρ = [.val (.scr ns), .own p3, .val d, .val th, .val ot, .val (.bl (decide (r = 0))), .val (.lst S), .val (.lst B), .val (.lst EE), v9, v10, .un, .un, .un]) ?_ ?_ ?_
    · exact ⟨0, v9, v10, by omega, rfl, ⟨i9, i10⟩, o9, rfl⟩
    · rintro d' ds' ρ ⟨k, v9, v10, hk, e, ⟨i9, i10⟩, o9, rfl⟩
      by_cases hlt : k < 23
      case neg =>
        have : EE.drop k = [] := List.drop_eq_nil_iff.mpr (by omega)
        rw [this] at e
        cases e
      obtain ⟨n, ks, fs, en, ee⟩ := ea k hlt
      have hk2 : k < EE.length := by omega
      have edr : EE.drop k = .exc n ks fs :: EE.drop (k + 1) := by
        rw [List.drop_eq_getElem_cons hk2]
        rw [List.getElem?_eq_getElem hk2] at ee
        rw [Option.some.inj ee]
      rw [edr, num_app] at e
      cases e
      obtain ⟨k1, k2⟩ := kinds_at en ks fs
      have iv : isvG [.exc n ks fs, .ty "ValueError"] = some (.bl true) := rfl
      have nb := ne_bls (BK k)
      simp only [↓wRules, ↓wRules2, ↓wRules3, ↓wOwn, wSlots, wOps, wOwn2, if_true, if_false, ite_true, ite_false, eq_self, ne_eq, ofS_inj, wLib, reduceIte, reduceCtorEq, Nat.reduceEqDiff, Nat.reduceAdd, Nat.reduceLeDiff, Nat.reduceLT, Nat.reduceSub, Int.reduceEq, Int.reduceLE, Int.reduceLT, Int.reduceAdd, Int.reduceSub, Int.reduceNeg, Int.reduceMul, Int.reduceToNat, String.reduceEq, String.reduceNe, i9, i10, k1, r23, List.length_map]
      with_reducible refine ⟨n23, lc_map (enc := fun j : Nat => D.int (j : Nat)) (fun _ => true) (fun j => .bl (decide (k = j))) (fun j _ => ?_) ?_⟩
      · simp only [↓wRules, ↓wRules2, ↓wRules3, ↓wOwn, wSlots, wOps, wOwn2, if_true, if_false, ite_true, ite_false, eq_self, ne_eq, ofS_inj, wLib, reduceIte, reduceCtorEq, Nat.reduceEqDiff, Nat.reduceAdd, Nat.reduceLeDiff, Nat.reduceLT, Nat.reduceSub, Int.reduceEq, Int.reduceLE, Int.reduceLT, Int.reduceAdd, Int.reduceSub, Int.reduceNeg, Int.reduceMul, Int.reduceToNat, String.reduceEq, String.reduceNe, i9, i10]
        congr 2
        rw [decide_eq_decide]
        omega
      rw [List.filter_eq_self.mpr (fun _ _ => rfl), h23, bk_map]
      generalize (BK k).map D.bl = M at nb
      simp only [↓wRules, ↓wRules2, ↓wRules3, ↓wOwn, wSlots, wOps, wOwn2, if_true, if_false, ite_true, ite_false, eq_self, ne_eq, ofS_inj, wLib, reduceIte, reduceCtorEq, Nat.reduceEqDiff, Nat.reduceAdd, Nat.reduceLeDiff, Nat.reduceLT, Nat.reduceSub, Int.reduceEq, Int.reduceLE, Int.reduceLT, Int.reduceAdd, Int.reduceSub, Int.reduceNeg, Int.reduceMul, Int.reduceToNat, String.reduceEq, String.reduceNe, i9, i10, nb, k2, iv]
      exact ⟨k + 1, _, _, by omega, rfl, ⟨rfl, rfl⟩, rfl, rfl⟩
    · rintro ρ ⟨k, v9, v10, hk, e, ⟨i9, i10⟩, o9, rfl⟩
      simp only [↓wRules, ↓wRules2, ↓wRules3, ↓wOwn, wSlots, wOps, wOwn2, if_true, if_false, ite_true, ite_false, eq_self, ne_eq, ofS_inj, wLib, reduceIte, reduceCtorEq, Nat.reduceEqDiff, Nat.reduceAdd, Nat.reduceLeDiff, Nat.reduceLT, Nat.reduceSub, Int.reduceEq, Int.reduceLE, Int.reduceLT, Int.reduceAdd, Int.reduceSub, Int.reduceNeg, Int.reduceMul, Int.reduceToNat, String.reduceEq, String.reduceNe, i9, i10, f1, hz1, r16, List.length_map]
      with_reducible refine ⟨n16, lc_map (enc := fun j : Nat => D.int (j : Nat)) (fun _ => true) (fun _ => th) (fun j _ => ?_) ?_⟩
      · simp only [↓wRules, ↓wRules2, ↓wRules3, ↓wOwn, wSlots, wOps, wOwn2, if_true, if_false, ite_true, ite_false, eq_self, ne_eq, ofS_inj, wLib, reduceIte, reduceCtorEq, Nat.reduceEqDiff, Nat.reduceAdd, Nat.reduceLeDiff, Nat.reduceLT, Nat.reduceSub, Int.reduceEq, Int.reduceLE, Int.reduceLT, Int.reduceAdd, Int.reduceSub, Int.reduceNeg, Int.reduceMul, Int.reduceToNat, String.reduceEq, String.reduceNe, i9, i10]
      rw [List.filter_eq_self.mpr (fun _ _ => rfl), h16, List.map_const', List.length_range, ← hL16]
      simp only [↓wRules, ↓wRules2, ↓wRules3, ↓wOwn, wSlots, wOps, wOwn2, if_true, if_false, ite_true, ite_false, eq_self, ne_eq, ofS_inj, wLib, reduceIte, reduceCtorEq, Nat.reduceEqDiff, Nat.reduceAdd, Nat.reduceLeDiff, Nat.reduceLT, Nat.reduceSub, Int.reduceEq, Int.reduceLE, Int.reduceLT, Int.reduceAdd, Int.reduceSub, Int.reduceNeg, Int.reduceMul, Int.reduceToNat, String.reduceEq, String.reduceNe, i9, i10, hz1, neX_str, f2, hz2, r5, List.length_map]
      with_reducible refine ⟨n5, lc_map (enc := fun j : Nat => D.int (j : Nat)) (fun _ => true) (fun _ => .lst [th, ot]) (fun j _ => ?_) ?_⟩
      · simp only [↓wRules, ↓wRules2, ↓wRules3, ↓wOwn, wSlots, wOps, wOwn2, if_true, if_false, ite_true, ite_false, eq_self, ne_eq, ofS_inj, wLib, reduceIte, reduceCtorEq, Nat.reduceEqDiff, Nat.reduceAdd, Nat.reduceLeDiff, Nat.reduceLT, Nat.reduceSub, Int.reduceEq, Int.reduceLE, Int.reduceLT, Int.reduceAdd, Int.reduceSub, Int.reduceNeg, Int.reduceMul, Int.reduceToNat, String.reduceEq, String.reduceNe, i9, i10]
      rw [List.filter_eq_self.mpr (fun _ _ => rfl), h5', List.map_const', List.length_range, ← hL5]
      simp only [↓wRules, ↓wRules2, ↓wRules3, ↓wOwn, wSlots, wOps, wOwn2, if_true, if_false, ite_true, ite_false, eq_self, ne_eq, ofS_inj, wLib, reduceIte, reduceCtorEq, Nat.reduceEqDiff, Nat.reduceAdd, Nat.reduceLeDiff, Nat.reduceLT, Nat.reduceSub, Int.reduceEq, Int.reduceLE, Int.reduceLT, Int.reduceAdd, Int.reduceSub, Int.reduceNeg, Int.reduceMul, Int.reduceToNat, String.reduceEq, String.reduceNe, i9, i10, hz2, neX_str]
      exact ⟨_, _, _, _, _, _, _, _, _, _, _, h3, by omega, ⟨rfl, rfl, rfl, rfl, rfl, rfl, rfl, i9, i10⟩, o9, rfl⟩
  · rintro ρ ⟨b, p, v2, v3, v4, v5, v6, v7, v8, v9, v10, hp, hb, ⟨i2, i3, i4, i5, i6, i7, i8, i9, i10⟩, o9, rfl⟩
    obtain ⟨q, hq, hd⟩ : ∃ q, pyD (.lst ([21, 22, 20].map fun n : Nat => .lst ((BK n).map .bl))) = some q ∧ q.depth ≤ 60 := ⟨_, rfl, by decide +kernel⟩
    have ez := eqG_refl hq hd
    have e3 : ((List.range 3).map fun j => D.lst ((BK (idx j)).map .bl)) = [21, 22, 20].map fun n : Nat => .lst ((BK n).map .bl) := rfl
    have e4 : ([.int 21, .int 22, .int 20] : List D) = [21, 22, 20].map fun n : Nat => D.int (n : Nat) := rfl
    obtain ⟨I3, hI3⟩ : ∃ L : List Nat, L = [21, 22, 20] := ⟨_, rfl⟩
    rw [← hI3] at ez e3 e4
    have nI : I3.length ≤ 4096 := by rw [hI3]; decide
    clear hq hd
    simp only [↓wRules, ↓wRules2, ↓wRules3, ↓wOwn, wSlots, wOps, wOwn2, if_true, if_false, ite_true, ite_false, eq_self, ne_eq, ofS_inj, wLib, reduceIte, reduceCtorEq, Nat.reduceEqDiff, Nat.reduceAdd, Nat.reduceLeDiff, Nat.reduceLT, Nat.reduceSub, Int.reduceEq, Int.reduceLE, Int.reduceLT, Int.reduceAdd, Int.reduceSub, Int.reduceNeg, Int.reduceMul, Int.reduceToNat, String.reduceEq, String.reduceNe, i2, i3, i4, i5, i6, i7, i8, i9, i10, r3, List.length_map]
    with_reducible refine ⟨n3, lc_map (enc := fun j : Nat => D.int (j : Nat)) (fun _ => true) (fun j => .lst ((BK (idx j)).map .bl)) (fun j hj => ?_) ?_⟩
    · have ca := caught_at (h3' ▸ hj)
      generalize (BK (idx j)).map D.bl = M at ca
      simp only [↓wRules, ↓wRules2, ↓wRules3, ↓wOwn, wSlots, wOps, wOwn2, if_true, if_false, ite_true, ite_false, eq_self, ne_eq, ofS_inj, wLib, reduceIte, reduceCtorEq, Nat.reduceEqDiff, Nat.reduceAdd, Nat.reduceLeDiff, Nat.reduceLT, Nat.reduceSub, Int.reduceEq, Int.reduceLE, Int.reduceLT, Int.reduceAdd, Int.reduceSub, Int.reduceNeg, Int.reduceMul, Int.reduceToNat, String.reduceEq, String.reduceNe, i2, i3, i4, i5, i6, i7, i8, i9, i10, ca]
    rw [List.filter_eq_self.mpr (fun _ _ => rfl), h3', e3]
    simp only [↓wRules, ↓wRules2, ↓wRules3, ↓wOwn, wSlots, wOps, wOwn2, if_true, if_false, ite_true, ite_false, eq_self, ne_eq, ofS_inj, wLib, reduceIte, reduceCtorEq, Nat.reduceEqDiff, Nat.reduceAdd, Nat.reduceLeDiff, Nat.reduceLT, Nat.reduceSub, Int.reduceEq, Int.reduceLE, Int.reduceLT, Int.reduceAdd, Int.reduceSub, Int.reduceNeg, Int.reduceMul, Int.reduceToNat, String.reduceEq, String.reduceNe, i2, i3, i4, i5, i6, i7, i8, i9, i10, o9]
    simp only [e4]
    with_reducible refine lc_map (enc := fun j : Nat => D.int (j : Nat)) (fun _ => true) (fun n => .lst ((BK n).map .bl)) (fun n hn => ?_) ?_
    · simp only [↓wRules, ↓wRules2, ↓wRules3, ↓wOwn, wSlots, wOps, wOwn2, if_true, if_false, ite_true, ite_false, eq_self, ne_eq, ofS_inj, wLib, reduceIte, reduceCtorEq, Nat.reduceEqDiff, Nat.reduceAdd, Nat.reduceLeDiff, Nat.reduceLT, Nat.reduceSub, Int.reduceEq, Int.reduceLE, Int.reduceLT, Int.reduceAdd, Int.reduceSub, Int.reduceNeg, Int.reduceMul, Int.reduceToNat, String.reduceEq, String.reduceNe, i2, i3, i4, i5, i6, i7, i8, i10, r23, List.length_map]
      with_reducible refine ⟨n23, lc_map (enc := fun j : Nat => D.int (j : Nat)) (fun _ => true) (fun j => .bl (decide (n = j))) (fun j _ => ?_) ?_⟩
      · simp only [↓wRules, ↓wRules2, ↓wRules3, ↓wOwn, wSlots, wOps, wOwn2, if_true, if_false, ite_true, ite_false, eq_self, ne_eq, ofS_inj, wLib, reduceIte, reduceCtorEq, Nat.reduceEqDiff, Nat.reduceAdd, Nat.reduceLeDiff, Nat.reduceLT, Nat.reduceSub, Int.reduceEq, Int.reduceLE, Int.reduceLT, Int.reduceAdd, Int.reduceSub, Int.reduceNeg, Int.reduceMul, Int.reduceToNat, String.reduceEq, String.reduceNe, i2, i3, i4, i5, i6, i7, i8, i10]
        congr 2
        rw [decide_eq_decide]
        omega
      rw [List.filter_eq_self.mpr (fun _ _ => rfl), h23, bk_map]
      generalize (BK n).map D.bl = M
      simp only [↓wRules, ↓wRules2, ↓wRules3, ↓wOwn, wSlots, wOps, wOwn2, if_true, if_false, ite_true, ite_false, eq_self, ne_eq, ofS_inj, wLib, reduceIte, reduceCtorEq, Nat.reduceEqDiff, Nat.reduceAdd, Nat.reduceLeDiff, Nat.reduceLT, Nat.reduceSub, Int.reduceEq, Int.reduceLE, Int.reduceLT, Int.reduceAdd, Int.reduceSub, Int.reduceNeg, Int.reduceMul, Int.reduceToNat, String.reduceEq, String.reduceNe, i2, i3, i4, i5, i6, i7, i8, i10]
    rw [List.filter_eq_self.mpr (fun _ _ => rfl)]
    simp only [↓wRules, ↓wRules2, ↓wRules3, ↓wOwn, wSlots, wOps, wOwn2, if_true, if_false, ite_true, ite_false, eq_self, ne_eq, ofS_inj, wLib, reduceIte, reduceCtorEq, Nat.reduceEqDiff, Nat.reduceAdd, Nat.reduceLeDiff, Nat.reduceLT, Nat.reduceSub, Int.reduceEq, Int.reduceLE, Int.reduceLT, Int.reduceAdd, Int.reduceSub, Int.reduceNeg, Int.reduceMul, Int.reduceToNat, String.reduceEq, String.reduceNe, i2, i3, i4, i5, i6, i7, i8, i9, i10, ez]
    exact ⟨rfl, rfl⟩
end K01
namespace K01
open PySem PySem.Spec PyProof.Rows L2 Kq StX ClX LamX Kd
open Pg
section
variable {c : Cn} {P : Program} {w : World} {K : PySem.W.Frag} {mg : Str → Option Value} {base : Heap}
theorem d_pen {f : Addr} {fd : FuncData} (F : Fun K "_law_pen" "_law_pen" st_pen f fd) (T : Tx c P w K mg base)  (hbi : Binds K fd ps_pen []) :
    FnV P w K mg base 1 f (spV c F_pen) :=
  fnV (N := N_pen) (ps := ps_pen) (b := B_pen) F sc_pen hbi fun cdv A outer s H E hgd hr => by
    unfold B_pen
    exact (ds_one (ds_retF (df_lst (da_cons (de_callT (callListP (K := K)) (list_link (K := K)) T.n_list (by decide +kernel) (do_cons (do_e (de_slice T.kK (do_var 0) dp_none (dp_some de_int))) do_nil)) (da_cons de_int (da_cons de_int da_nil))))))
theorem d_kinds {f : Addr} {fd : FuncData} (F : Fun K "_law_kinds" "_law_kinds" st_kinds f fd) (T : Tx c P w K mg base)  (hbi : Binds K fd ps_kinds []) :
    FnV P w K mg base 1 f (spV c F_kinds) :=
  fnV (N := N_kinds) (ps := ps_kinds) (b := B_kinds) F sc_kinds hbi fun cdv A outer s H E hgd hr => by
    unfold B_kinds
    exact (ds_one (ds_ret (de_lst (da_cons (de_isi T.iso T.n_isinstance (do_cons (do_var 0) (do_cons (do_e (de_clsNP T.k_BadWord)) do_nil))) (da_cons (de_isi T.iso T.n_isinstance (do_cons (do_var 0) (do_cons (do_e (de_clsNP T.k_BadPlace)) do_nil))) (da_cons (de_isi T.iso T.n_isinstance (do_cons (do_var 0) (do_cons (do_e (de_clsNP T.k_BadTruth)) do_nil))) (da_cons (de_isi T.iso T.n_isinstance (do_cons (do_var 0) (do_cons (do_e (de_clsNP T.k_BadCount)) do_nil))) (da_cons (de_isi T.iso T.n_isinstance (do_cons (do_var 0) (do_cons (do_e (de_clsNP T.k_BadLimit)) do_nil))) (da_cons (de_isi T.iso T.n_isinstance (do_cons (do_var 0) (do_cons (do_e (de_clsNP T.k_BadOrder)) do_nil))) (da_cons (de_isi T.iso T.n_isinstance (do_cons (do_var 0) (do_cons (do_e (de_clsNP T.k_BadGroup)) do_nil))) (da_cons (de_isi T.iso T.n_isinstance (do_cons (do_var 0) (do_cons (do_e (de_clsNP T.k_BadTree)) do_nil))) (da_cons (de_isi T.iso T.n_isinstance (do_cons (do_var 0) (do_cons (do_e (de_clsNP T.k_Unlike)) do_nil))) (da_cons (de_isi T.iso T.n_isinstance (do_cons (do_var 0) (do_cons (do_e (de_clsNP T.k_BadBook)) do_nil))) (da_cons (de_isi T.iso T.n_isinstance (do_cons (do_var 0) (do_cons (do_e (de_clsNP T.k_BadNode)) do_nil))) (da_cons (de_isi T.iso T.n_isinstance (do_cons (do_var 0) (do_cons (do_e (de_clsNP T.k_BadList)) do_nil))) (da_cons (de_isi T.iso T.n_isinstance (do_cons (do_var 0) (do_cons (do_e (de_clsNP T.k_NoWord)) do_nil))) (da_cons (de_isi T.iso T.n_isinstance (do_cons (do_var 0) (do_cons (do_e (de_clsNP T.k_Taken)) do_nil))) (da_cons (de_isi T.iso T.n_isinstance (do_cons (do_var 0) (do_cons (do_e (de_clsNP T.k_BadCommand)) do_nil))) (da_cons (de_isi T.iso T.n_isinstance (do_cons (do_var 0) (do_cons (do_e (de_clsNP T.k_NoName)) do_nil))) (da_cons (de_isi T.iso T.n_isinstance (do_cons (do_var 0) (do_cons (do_e (de_clsNP T.k_BadText)) do_nil))) (da_cons (de_isi T.iso T.n_isinstance (do_cons (do_var 0) (do_cons (do_e (de_clsNP T.k_NotPhrase)) do_nil))) (da_cons (de_isi T.iso T.n_isinstance (do_cons (do_var 0) (do_cons (do_e (de_clsNP T.k_Breaks)) do_nil))) (da_cons (de_isi T.iso T.n_isinstance (do_cons (do_var 0) (do_cons (do_e (de_clsNP T.k_Clash)) do_nil))) (da_cons (de_isi T.iso T.n_isinstance (do_cons (do_var 0) (do_cons (do_e (de_clsNP T.k_TooMany)) do_nil))) (da_cons (de_isi T.iso T.n_isinstance (do_cons (do_var 0) (do_cons (do_e (de_clsNP T.k_NoChange)) do_nil))) (da_cons (de_isi T.iso T.n_isinstance (do_cons (do_var 0) (do_cons (do_e (de_clsNP T.k_LastOrder)) do_nil))) da_nil))))))))))))))))))))))))))
theorem dq_kinds {f : Addr} {fd : FuncData} (F : Fun K "_law_kinds" "_law_kinds" st_kinds f fd) (T : Tx c P w K mg base) (hbi : Binds K fd ps_kinds []) :
    FnQ P w K mg base f (spV c F_kinds) :=
  fnQ (N := N_kinds) (ps := ps_kinds) (b := B_kinds) F sc_kinds hbi fun cdv A outer s H E p => by
    unfold B_kinds
    exact (ds_one (ds_ret (de_lst (da_cons (de_isi T.iso T.n_isinstance (do_cons (do_var 0) (do_cons (do_e (de_clsNP T.k_BadWord)) do_nil))) (da_cons (de_isi T.iso T.n_isinstance (do_cons (do_var 0) (do_cons (do_e (de_clsNP T.k_BadPlace)) do_nil))) (da_cons (de_isi T.iso T.n_isinstance (do_cons (do_var 0) (do_cons (do_e (de_clsNP T.k_BadTruth)) do_nil))) (da_cons (de_isi T.iso T.n_isinstance (do_cons (do_var 0) (do_cons (do_e (de_clsNP T.k_BadCount)) do_nil))) (da_cons (de_isi T.iso T.n_isinstance (do_cons (do_var 0) (do_cons (do_e (de_clsNP T.k_BadLimit)) do_nil))) (da_cons (de_isi T.iso T.n_isinstance (do_cons (do_var 0) (do_cons (do_e (de_clsNP T.k_BadOrder)) do_nil))) (da_cons (de_isi T.iso T.n_isinstance (do_cons (do_var 0) (do_cons (do_e (de_clsNP T.k_BadGroup)) do_nil))) (da_cons (de_isi T.iso T.n_isinstance (do_cons (do_var 0) (do_cons (do_e (de_clsNP T.k_BadTree)) do_nil))) (da_cons (de_isi T.iso T.n_isinstance (do_cons (do_var 0) (do_cons (do_e (de_clsNP T.k_Unlike)) do_nil))) (da_cons (de_isi T.iso T.n_isinstance (do_cons (do_var 0) (do_cons (do_e (de_clsNP T.k_BadBook)) do_nil))) (da_cons (de_isi T.iso T.n_isinstance (do_cons (do_var 0) (do_cons (do_e (de_clsNP T.k_BadNode)) do_nil))) (da_cons (de_isi T.iso T.n_isinstance (do_cons (do_var 0) (do_cons (do_e (de_clsNP T.k_BadList)) do_nil))) (da_cons (de_isi T.iso T.n_isinstance (do_cons (do_var 0) (do_cons (do_e (de_clsNP T.k_NoWord)) do_nil))) (da_cons (de_isi T.iso T.n_isinstance (do_cons (do_var 0) (do_cons (do_e (de_clsNP T.k_Taken)) do_nil))) (da_cons (de_isi T.iso T.n_isinstance (do_cons (do_var 0) (do_cons (do_e (de_clsNP T.k_BadCommand)) do_nil))) (da_cons (de_isi T.iso T.n_isinstance (do_cons (do_var 0) (do_cons (do_e (de_clsNP T.k_NoName)) do_nil))) (da_cons (de_isi T.iso T.n_isinstance (do_cons (do_var 0) (do_cons (do_e (de_clsNP T.k_BadText)) do_nil))) (da_cons (de_isi T.iso T.n_isinstance (do_cons (do_var 0) (do_cons (do_e (de_clsNP T.k_NotPhrase)) do_nil))) (da_cons (de_isi T.iso T.n_isinstance (do_cons (do_var 0) (do_cons (do_e (de_clsNP T.k_Breaks)) do_nil))) (da_cons (de_isi T.iso T.n_isinstance (do_cons (do_var 0) (do_cons (do_e (de_clsNP T.k_Clash)) do_nil))) (da_cons (de_isi T.iso T.n_isinstance (do_cons (do_var 0) (do_cons (do_e (de_clsNP T.k_TooMany)) do_nil))) (da_cons (de_isi T.iso T.n_isinstance (do_cons (do_var 0) (do_cons (do_e (de_clsNP T.k_NoChange)) do_nil))) (da_cons (de_isi T.iso T.n_isinstance (do_cons (do_var 0) (do_cons (do_e (de_clsNP T.k_LastOrder)) do_nil))) da_nil))))))))))))))))))))))))))
theorem d_caught {f : Addr} {fd : FuncData} (F : Fun K "_law_caught" "_law_caught" st_caught f fd) (T : Tx c P w K mg base) (PQ_kinds : GFnQ c P w K mg base "_law_kinds" F_kinds) (hbi : Binds K fd ps_caught []) :
    FnV P w K mg base 2 f (spV c F_caught) :=
  fnV (N := N_caught) (ps := ps_caught) (b := B_caught) F sc_caught hbi fun cdv A outer s H E hgd hr => by
    unfold B_caught
    exact (ds_cons (by obtain ⟨C, hC1, hC2⟩ := T.s_PhraseError; exact ds_tryR 1 hC2 rfl rfl rfl sc_caught.nd rfl rfl (names_of rfl (by decide) hC1) (takes_of rfl rfl rfl rfl) (hb := fun W pn xe tk hp => (ds_cons (ds_if (dt_cmp (opEqP flatTA hr.units) eq_link (do_var 0) (do_e de_int) (by first | exact nomark _ | rfl))
    (ds_one (ds_raise0P T.e0_NoChange rfl tk))
    ds_nil)
    (ds_cons (ds_if (dt_cmp (opEqP flatTA hr.units) eq_link (do_var 0) (do_e de_int) (by first | exact nomark _ | rfl))
    (ds_one (ds_raise0P T.e0_LastOrder rfl tk))
    ds_nil)
    (ds_one (ds_raiseP T.e_TooMany rfl hr tk (da_cons de_str (da_cons (de_var 0) da_nil))))))) (hsu := fun a pn => (ds_one (ds_ret (de_callQ PQ_kinds (roomQ (k := 0) (hr.mono (by decide)) _) takes0 (cw_plain (ar_val (de_var 1) ar_nil)))))))
    (ds_one (ds_ret (de_lst da_nil))))
theorem d_draw {f : Addr} {fd : FuncData} (F : Fun K "_law_draw" "_law_draw" st_draw f fd) (T : Tx c P w K mg base)  (hbi : Binds K fd ps_draw []) :
    FnV P w K mg base 1 f (spV c F_draw) :=
  fnV (N := N_draw) (ps := ps_draw) (b := B_draw) F sc_draw hbi fun cdv A outer s H E hgd hr => by
    unfold B_draw
    exact (ds_cons (ds_if (dt_cmp opGtP ord_link (do_e (de_ix (do_var 0) (do_e de_int))) (do_e de_int) (by first | exact nomark _ | rfl))
    (ds_cons (ds_asg 2 sc_draw.nd rfl (by first | exact Or.inl rfl | exact Or.inr rfl) (de_bin op_mod mod_link (do_e (de_callT call_int1 int1_link T.n_int (by decide +kernel) (do_cons (do_e (de_ix (do_var 0) (do_e de_int))) do_nil))) (do_var 1)))
    (ds_cons (ds_put 0 (pv 0) de_int (de_bin op_fdiv div_link (do_e (de_callT call_int1 int1_link T.n_int (by decide +kernel) (do_cons (do_e (de_ix (do_var 0) (do_e de_int))) do_nil))) (do_var 1)))
    (ds_one (ds_ret (de_var 2)))))
    ds_nil)
    (ds_cons (ds_asg 3 sc_draw.nd rfl (by first | exact Or.inl rfl | exact Or.inr rfl) (de_ix (do_var 0) (do_e de_int)))
    (ds_cons (ds_put 0 (pv 0) de_int (de_bin (opAddP (K := K)) (add_link (K := K)) (do_var 3) (do_e de_int)))
    (ds_cons (ds_asg 4 sc_draw.nd rfl (by first | exact Or.inl rfl | exact Or.inr rfl) (de_bin (opAddP (K := K)) (add_link (K := K)) (do_e (de_bin op_mul mul_link (do_e de_int) (do_var 3))) (do_e de_int)))
    (ds_cons (ds_if (dt_cmp (opNeP (K := K) hr.units) (neX_link (K := K)) (do_e (de_ix (do_var 0) (do_e de_int))) (do_e (de_lst da_nil)) (by first | exact nomark _ | rfl))
    (ds_one (ds_asg 4 sc_draw.nd rfl (by first | exact Or.inl rfl | exact Or.inr rfl) (de_ix (do_e (de_ix (do_var 0) (do_e de_int))) (do_e (de_bin op_mod mod_link (do_e (de_callT call_int1 int1_link T.n_int (by decide +kernel) (do_cons (do_var 3) do_nil))) (do_e (de_callB (callLenP (K := K)) (len_link (K := K)) T.n_len (by decide +kernel) (do_cons (do_e (de_ix (do_var 0) (do_e de_int))) do_nil))))))))
    ds_nil)
    (ds_cons (ds_if (dt_w (dw_and (dt_cmp opLtP ord_link (do_var 3) (do_e (de_callB (callLenP (K := K)) (len_link (K := K)) T.n_len (by decide +kernel) (do_cons (do_e (de_ix (do_var 0) (do_e de_int))) do_nil))) (by first | exact nomark _ | rfl)) (dw_and1 (dt_cmp opGeP ord_link (do_e (de_callB call_abs abs_link T.n_abs (by decide +kernel) (do_cons (do_var 4) do_nil))) (do_e (de_bin op_pow pow_link (do_e de_int) (do_e de_int))) (by first | exact nomark _ | rfl)))))
    (ds_cons (ds_asg 5 sc_draw.nd rfl (by first | exact Or.inl rfl | exact Or.inr rfl) (de_bin (opAddP (K := K)) (add_link (K := K)) (do_e (de_bin op_mul mul_link (do_e de_int) (do_e (de_bin opSubP sub_link (do_e (de_callB call_abs abs_link T.n_abs (by decide +kernel) (do_cons (do_var 4) do_nil))) (do_e (de_bin op_pow pow_link (do_e de_int) (do_e de_int))))))) (do_e (de_callT call_int1 int1_link T.n_int (by decide +kernel) (do_cons (do_e (de_cmp opLtP ord_link (do_var 4) (do_e de_int) (by first | exact nomark _ | rfl))) do_nil)))))
    (ds_cons (ds_put 0 (pv 0) de_int (de_bin op_fdiv div_link (do_e (de_callT call_int1 int1_link T.n_int (by decide +kernel) (do_cons (do_var 5) do_nil))) (do_var 1)))
    (ds_one (ds_ret (de_bin op_mod mod_link (do_e (de_callT call_int1 int1_link T.n_int (by decide +kernel) (do_cons (do_var 5) do_nil))) (do_var 1))))))
    ds_nil)
    (ds_cons (ds_asg 6 sc_draw.nd rfl (by first | exact Or.inl rfl | exact Or.inr rfl) (de_bin op_mod mod_link (do_e (de_callT call_int1 int1_link T.n_int (by decide +kernel) (do_cons (do_e (de_bin op_pow pow_link (do_e (de_bin (opAddP (K := K)) (add_link (K := K)) (do_e (de_bin (opAddP (K := K)) (add_link (K := K)) (do_e (de_bin op_mod mod_link (do_e (de_callT call_int1 int1_link T.n_int (by decide +kernel) (do_cons (do_var 4) do_nil))) (do_e de_int))) (do_e (de_bin op_mul mul_link (do_e de_int) (do_var 3))))) (do_e de_int))) (do_e de_int))) do_nil))) (do_e de_int)))
    (ds_cons (ds_asg 6 sc_draw.nd rfl (by first | exact Or.inl rfl | exact Or.inr rfl) (de_bin op_mod mod_link (do_e (de_callT call_int1 int1_link T.n_int (by decide +kernel) (do_cons (do_e (de_bin op_pow pow_link (do_e (de_bin (opAddP (K := K)) (add_link (K := K)) (do_e (de_bin (opAddP (K := K)) (add_link (K := K)) (do_e (de_bin op_mul mul_link (do_var 6) (do_e (de_bin (opAddP (K := K)) (add_link (K := K)) (do_e (de_bin op_mul mul_link (do_e de_int) (do_var 3))) (do_e de_int))))) (do_e (de_bin op_mul mul_link (do_e (de_bin op_mul mul_link (do_e de_int) (do_var 3))) (do_var 3))))) (do_e de_int))) (do_e de_int))) do_nil))) (do_e de_int)))
    (ds_one (ds_ret (de_bin op_mod mod_link (do_e (de_callT call_int1 int1_link T.n_int (by decide +kernel) (do_cons (do_e (de_bin op_fdiv div_link (do_var 6) (do_e de_int))) do_nil))) (do_var 1))))))))))))
theorem d_pick {f : Addr} {fd : FuncData} (F : Fun K "_law_pick" "_law_pick" st_pick f fd) (T : Tx c P w K mg base) (P_draw : GFn c P w K mg base 1 "_law_draw" F_draw) (hbi : Binds K fd ps_pick []) :
    FnV P w K mg base 2 f (spV c F_pick) :=
  fnV (N := N_pick) (ps := ps_pick) (b := B_pick) F sc_pick hbi fun cdv A outer s H E hgd hr => by
    unfold B_pick
    exact (ds_one (ds_ret (de_ix (do_var 1) (do_e (de_callP P_draw hgd hr (by decide) (takes_of rfl rfl rfl rfl) (cw_plain (ar_io 0 (pv 0) (ar_val (de_callB (callLenP (K := K)) (len_link (K := K)) T.n_len (by decide +kernel) (do_cons (do_var 1) do_nil)) ar_nil))))))))
theorem d_value {f : Addr} {fd : FuncData} (F : Fun K "_law_value" "_law_value" st_value f fd) (T : Tx c P w K mg base) (P_pick : GFn c P w K mg base 2 "_law_pick" F_pick) (hbi : Binds K fd ps_value []) :
    FnV P w K mg base 3 f (spV c F_value) :=
  fnV (N := N_value) (ps := ps_value) (b := B_value) F sc_value hbi fun cdv A outer s H E hgd hr => by
    unfold B_value
    exact (ds_cons (ds_asg 1 sc_value.nd rfl (by first | exact Or.inl rfl | exact Or.inr rfl) (de_lst (da_cons de_non (da_cons de_bl (da_cons de_bl (da_cons de_int (da_cons (de_neg (do_e de_int)) (da_cons (de_bin op_pow pow_link (do_e de_int) (do_e de_int)) (da_cons de_str (da_cons de_str (da_cons de_str (da_cons de_str (da_cons (de_lst (da_cons de_str da_nil)) (da_cons (de_tup (da_cons de_str (da_cons de_int da_nil))) (da_cons (de_f (df_dict1 de_non)) (da_cons (de_lst (da_cons (de_lst da_nil) da_nil)) da_nil))))))))))))))))
    (ds_one (ds_ret (de_callP P_pick hgd hr (by decide) (takes_of rfl rfl rfl rfl) (cw_plain (ar_io 0 (pv 0) (ar_val (de_var 1) ar_nil)))))))
end
end K01
namespace K01
open PySem PySem.Spec PyProof.Rows L2 Kq StX ClX LamX Kd
open Pg
section
variable {c : Cn} {P : Program} {w : World} {K : PySem.W.Frag} {mg : Str → Option Value} {base : Heap}
theorem d_singles {f : Addr} {fd : FuncData} (F : Fun K "_law_singles" "_law_singles" st_singles f fd) (T : Tx c P w K mg base)  (hbi : Binds K fd ps_singles []) :
    FnV P w K mg base 1 f (spV c F_singles) :=
  fnV (N := N_singles) (ps := ps_singles) (b := B_singles) F sc_singles hbi fun cdv A outer s H E hgd hr => by
    unfold B_singles
    exact (ds_cons (ds_if (dt_val (de_var 1))
    (ds_one (ds_ret (de_lst (da_cons (de_mkXK T.eN_BadWord hr rfl (dks_cons (de_var 0) dks_nil)) (da_cons (de_mkXK T.eN_BadPlace hr rfl (dks_cons (de_var 0) dks_nil)) (da_cons (de_mkXK T.eN_BadTruth hr rfl (dks_cons (de_var 0) dks_nil)) (da_cons (de_mkXK T.eN_BadCount hr rfl (dks_cons (de_var 0) dks_nil)) (da_cons (de_mkXK T.eN_BadLimit hr rfl (dks_cons (de_var 0) dks_nil)) (da_cons (de_mkXK T.eN_BadOrder hr rfl (dks_cons (de_var 0) dks_nil)) (da_cons (de_mkXK T.eN_BadGroup hr rfl (dks_cons (de_var 0) dks_nil)) (da_cons (de_mkXK T.eN_BadTree hr rfl (dks_cons (de_var 0) dks_nil)) (da_cons (de_mkXK T.eN_Unlike hr rfl (dks_cons (de_var 0) dks_nil)) (da_cons (de_mkXK T.eN_BadBook hr rfl (dks_cons (de_var 0) dks_nil)) (da_cons (de_mkXK T.eN_BadNode hr rfl (dks_cons (de_var 0) dks_nil)) (da_cons (de_mkXK T.eN_BadList hr rfl (dks_cons (de_var 0) dks_nil)) (da_cons (de_mkXK T.eN_NoWord hr rfl (dks_cons (de_var 0) dks_nil)) (da_cons (de_mkXK T.eN_Taken hr rfl (dks_cons (de_var 0) dks_nil)) (da_cons (de_mkXK T.eN_BadCommand hr rfl (dks_cons (de_var 0) dks_nil)) (da_cons (de_mkXK T.eN_NoName hr rfl (dks_cons (de_var 0) dks_nil)) da_nil)))))))))))))))))))
    ds_nil)
    (ds_one (ds_ret (de_lst (da_cons (de_mkXP T.e_BadWord hr rfl (da_cons (de_var 0) da_nil)) (da_cons (de_mkXP T.e_BadPlace hr rfl (da_cons (de_var 0) da_nil)) (da_cons (de_mkXP T.e_BadTruth hr rfl (da_cons (de_var 0) da_nil)) (da_cons (de_mkXP T.e_BadCount hr rfl (da_cons (de_var 0) da_nil)) (da_cons (de_mkXP T.e_BadLimit hr rfl (da_cons (de_var 0) da_nil)) (da_cons (de_mkXP T.e_BadOrder hr rfl (da_cons (de_var 0) da_nil)) (da_cons (de_mkXP T.e_BadGroup hr rfl (da_cons (de_var 0) da_nil)) (da_cons (de_mkXP T.e_BadTree hr rfl (da_cons (de_var 0) da_nil)) (da_cons (de_mkXP T.e_Unlike hr rfl (da_cons (de_var 0) da_nil)) (da_cons (de_mkXP T.e_BadBook hr rfl (da_cons (de_var 0) da_nil)) (da_cons (de_mkXP T.e_BadNode hr rfl (da_cons (de_var 0) da_nil)) (da_cons (de_mkXP T.e_BadList hr rfl (da_cons (de_var 0) da_nil)) (da_cons (de_mkXP T.e_NoWord hr rfl (da_cons (de_var 0) da_nil)) (da_cons (de_mkXP T.e_Taken hr rfl (da_cons (de_var 0) da_nil)) (da_cons (de_mkXP T.e_BadCommand hr rfl (da_cons (de_var 0) da_nil)) (da_cons (de_mkXP T.e_NoName hr rfl (da_cons (de_var 0) da_nil)) da_nil))))))))))))))))))))
theorem d_doubles {f : Addr} {fd : FuncData} (F : Fun K "_law_doubles" "_law_doubles" st_doubles f fd) (T : Tx c P w K mg base)  (hbi : Binds K fd ps_doubles []) :
    FnV P w K mg base 1 f (spV c F_doubles) :=
  fnV (N := N_doubles) (ps := ps_doubles) (b := B_doubles) F sc_doubles hbi fun cdv A outer s H E hgd hr => by
    unfold B_doubles
    exact (ds_cons (ds_if (dt_val (de_var 2))
    (ds_one (ds_ret (de_lst (da_cons (de_mkXK T.eN_BadText hr rfl (dks_cons (de_var 1) (dks_cons (de_var 0) dks_nil))) (da_cons (de_mkXK T.eN_NotPhrase hr rfl (dks_cons (de_var 1) (dks_cons (de_var 0) dks_nil))) (da_cons (de_mkXK T.eN_Breaks hr rfl (dks_cons (de_var 1) (dks_cons (de_var 0) dks_nil))) (da_cons (de_mkXK T.eN_Clash hr rfl (dks_cons (de_var 1) (dks_cons (de_var 0) dks_nil))) (da_cons (de_mkXK T.eN_TooMany hr rfl (dks_cons (de_var 1) (dks_cons (de_var 0) dks_nil))) da_nil))))))))
    ds_nil)
    (ds_one (ds_ret (de_lst (da_cons (de_mkXP T.e_BadText hr rfl (da_cons (de_var 0) (da_cons (de_var 1) da_nil))) (da_cons (de_mkXP T.e_NotPhrase hr rfl (da_cons (de_var 0) (da_cons (de_var 1) da_nil))) (da_cons (de_mkXP T.e_Breaks hr rfl (da_cons (de_var 0) (da_cons (de_var 1) da_nil))) (da_cons (de_mkXP T.e_Clash hr rfl (da_cons (de_var 0) (da_cons (de_var 1) da_nil))) (da_cons (de_mkXP T.e_TooMany hr rfl (da_cons (de_var 0) (da_cons (de_var 1) da_nil))) da_nil)))))))))
theorem d_single_fields {f : Addr} {fd : FuncData} (F : Fun K "_law_single_fields" "_law_single_fields" st_single_fields f fd) (T : Tx c P w K mg base)  (hbi : Binds K fd ps_single_fields []) :
    FnV P w K mg base 1 f (spV c F_single_fields) :=
  fnV (N := N_single_fields) (ps := ps_single_fields) (b := B_single_fields) F sc_single_fields hbi fun cdv A outer s H E hgd hr => by
    unfold B_single_fields
    exact (ds_one (ds_ret (de_lst (da_cons (de_xfd T.x_value (do_e (de_ix (do_var 0) (do_e de_int)))) (da_cons (de_xfd T.x_value (do_e (de_ix (do_var 0) (do_e de_int)))) (da_cons (de_xfd T.x_value (do_e (de_ix (do_var 0) (do_e de_int)))) (da_cons (de_xfd T.x_value (do_e (de_ix (do_var 0) (do_e de_int)))) (da_cons (de_xfd T.x_value (do_e (de_ix (do_var 0) (do_e de_int)))) (da_cons (de_xfd T.x_part (do_e (de_ix (do_var 0) (do_e de_int)))) (da_cons (de_xfd T.x_part (do_e (de_ix (do_var 0) (do_e de_int)))) (da_cons (de_xfd T.x_part (do_e (de_ix (do_var 0) (do_e de_int)))) (da_cons (de_xfd T.x_part (do_e (de_ix (do_var 0) (do_e de_int)))) (da_cons (de_xfd T.x_at (do_e (de_ix (do_var 0) (do_e de_int)))) (da_cons (de_xfd T.x_at (do_e (de_ix (do_var 0) (do_e de_int)))) (da_cons (de_xfd T.x_at (do_e (de_ix (do_var 0) (do_e de_int)))) (da_cons (de_xfd T.x_word (do_e (de_ix (do_var 0) (do_e de_int)))) (da_cons (de_xfd T.x_word (do_e (de_ix (do_var 0) (do_e de_int)))) (da_cons (de_xfd T.x_word (do_e (de_ix (do_var 0) (do_e de_int)))) (da_cons (de_xfd T.x_name (do_e (de_ix (do_var 0) (do_e de_int)))) da_nil)))))))))))))))))))
theorem d_double_fields {f : Addr} {fd : FuncData} (F : Fun K "_law_double_fields" "_law_double_fields" st_double_fields f fd) (T : Tx c P w K mg base)  (hbi : Binds K fd ps_double_fields []) :
    FnV P w K mg base 1 f (spV c F_double_fields) :=
  fnV (N := N_double_fields) (ps := ps_double_fields) (b := B_double_fields) F sc_double_fields hbi fun cdv A outer s H E hgd hr => by
    unfold B_double_fields
    exact (ds_one (ds_ret (de_lst (da_cons (de_lst (da_cons (de_xfd T.x_line (do_e (de_ix (do_var 0) (do_e de_int)))) (da_cons (de_xfd T.x_word (do_e (de_ix (do_var 0) (do_e de_int)))) da_nil))) (da_cons (de_lst (da_cons (de_xfd T.x_group (do_e (de_ix (do_var 0) (do_e de_int)))) (da_cons (de_xfd T.x_pull (do_e (de_ix (do_var 0) (do_e de_int)))) da_nil))) (da_cons (de_lst (da_cons (de_xfd T.x_group (do_e (de_ix (do_var 0) (do_e de_int)))) (da_cons (de_xfd T.x_pull (do_e (de_ix (do_var 0) (do_e de_int)))) da_nil))) (da_cons (de_lst (da_cons (de_xfd T.x_run (do_e (de_ix (do_var 0) (do_e de_int)))) (da_cons (de_xfd T.x_chain (do_e (de_ix (do_var 0) (do_e de_int)))) da_nil))) (da_cons (de_lst (da_cons (de_xfd T.x_what (do_e (de_ix (do_var 0) (do_e de_int)))) (da_cons (de_xfd T.x_most (do_e (de_ix (do_var 0) (do_e de_int)))) da_nil))) da_nil))))))))
theorem d_law {f : Addr} {fd : FuncData} (F : Fun K "law" "law" st_law f fd) (T : Tx c P w K mg base) (P_caught : GFn c P w K mg base 2 "_law_caught" F_caught) (P_double_fields : GFn c P w K mg base 1 "_law_double_fields" F_double_fields) (P_single_fields : GFn c P w K mg base 1 "_law_single_fields" F_single_fields) (P_kinds : GFn c P w K mg base 1 "_law_kinds" F_kinds) (P_doubles : GFn c P w K mg base 1 "_law_doubles" F_doubles) (P_singles : GFn c P w K mg base 1 "_law_singles" F_singles) (P_draw : GFn c P w K mg base 1 "_law_draw" F_draw) (P_value : GFn c P w K mg base 3 "_law_value" F_value) (P_pen : GFn c P w K mg base 1 "_law_pen" F_pen) :
    FnG P w K mg base (L2.CX P w) 4 f fd ps_law (spD c ps_law.length (bodyF N_law.length B_law)) :=
  fnD (N := N_law) (ps := ps_law) (b := B_law) F sc_law fun cdv A outer s H E hgd hr => by
    unfold B_law
    exact (ds_cons (ds_own 1 sc_law.nd rfl (by first | exact Or.inl rfl | exact Or.inr rfl) (df_callP P_pen hgd hr (by decide) (takes_of rfl rfl rfl rfl) (cw_plain (ar_val (de_var 0) ar_nil))))
    (ds_cons (ds_for (passes_of rfl) rfl (di_range1 rfl T.n_range (da_cons de_int da_nil)) (dg_name 2 sc_law.nd rfl (by first | exact Or.inl rfl | exact Or.inr rfl))
    (ds_cons (ds_set (de_tup (da_cons (de_callP P_value hgd hr (by decide) (takes_of rfl rfl rfl rfl) (cw_plain (ar_io 1 (pv 1) ar_nil))) (da_cons (de_callP P_value hgd hr (by decide) (takes_of rfl rfl rfl rfl) (cw_plain (ar_io 1 (pv 1) ar_nil))) da_nil))) (dg_tup rfl (dg_cons (dg_name 3 sc_law.nd rfl (by first | exact Or.inl rfl | exact Or.inr rfl)) (dg_cons (dg_name 4 sc_law.nd rfl (by first | exact Or.inl rfl | exact Or.inr rfl)) dg_nil))))
    (ds_cons (ds_asg 5 sc_law.nd rfl (by first | exact Or.inl rfl | exact Or.inr rfl) (de_cmp (opEqP flatTA hr.units) eq_link (do_e (de_callP P_draw hgd hr (by decide) (takes_of rfl rfl rfl rfl) (cw_plain (ar_io 1 (pv 1) (ar_val de_int ar_nil))))) (do_e de_int) (by first | exact nomark _ | rfl)))
    (ds_cons (ds_par 6 7 rfl sc_law.nd rfl rfl (by decide) rfl rfl (da_cons (de_callP P_singles hgd hr (by decide) (takes_of rfl rfl rfl rfl) (cw_plain (ar_val (de_var 3) (ar_val (de_var 5) ar_nil)))) (da_cons (de_callP P_doubles hgd hr (by decide) (takes_of rfl rfl rfl rfl) (cw_plain (ar_val (de_var 3) (ar_val (de_var 4) (ar_val (de_var 5) ar_nil))))) da_nil)) rfl)
    (ds_cons (ds_asg 8 sc_law.nd rfl (by first | exact Or.inl rfl | exact Or.inr rfl) (de_bin (opAddP (K := K)) (add_link (K := K)) (do_e (de_bin (opAddP (K := K)) (add_link (K := K)) (do_var 6) (do_var 7))) (do_e (de_lst (da_cons (de_mk0P T.e0_NoChange) (da_cons (de_mk0P T.e0_LastOrder) da_nil))))))
    (ds_cons (ds_for (passes_of rfl) rfl (di_enumA rfl T.n_enumerate (de_var 8)) (dg_tup rfl (dg_cons (dg_name 9 sc_law.nd rfl (by first | exact Or.inl rfl | exact Or.inr rfl)) (dg_cons (dg_name 10 sc_law.nd rfl (by first | exact Or.inl rfl | exact Or.inr rfl)) dg_nil)))
    (ds_cons (ds_if (dt_cmp (opNeP (K := K) hr.units) (neX_link (K := K)) (do_e (de_callP P_kinds hgd hr (by decide) (takes_of rfl rfl rfl rfl) (cw_plain (ar_val (de_var 10) ar_nil)))) (do_e (de_f (df_lc (own := [("_law_each", 11)]) rfl sc_law.nd (di_range1 rfl T.n_range (da_cons de_int da_nil)) (blkOk_by (N := N_law) (sc := defScope st_law) (by decide +kernel)) (fun _ _ _ _ _ => (dg_name 11 sc_law.nd rfl (by first | exact Or.inl rfl | exact Or.inr rfl))) (fun _ _ _ _ _ => dts_nil) (fun _ _ _ _ _ => (de_cmp (opEqP flatTA hr.units) eq_link (do_var 9) (do_var 11) (by first | exact nomark _ | rfl)))))) (by first | exact nomark _ | rfl))
    (ds_one (ds_ret de_bl))
    ds_nil)
    (ds_one (ds_if (dt_w (dw_or (dt_not (dt_val (de_isi T.iso T.n_isinstance (do_cons (do_var 10) (do_cons (do_e (de_clsNP T.k_PhraseError)) do_nil))))) (dw_or1 (dt_not (dt_val (de_isv T.vok T.n_isinstance (do_cons (do_var 10) (do_cons (do_e (de_tyN T.n_ValueError (by decide +kernel))) do_nil))))))))
    (ds_one (ds_ret de_bl))
    ds_nil))))
    (ds_cons (ds_if (dt_cmp (opNeP (K := K) hr.units) (neX_link (K := K)) (do_e (de_callB (call_reprL (Ts := [[(.inr "a", .non)]]) T.sy (by decide) hgd hr.units) reprL_link T.n_repr (by decide +kernel) (do_cons (do_e (de_callP P_single_fields hgd hr (by decide) (takes_of rfl rfl rfl rfl) (cw_plain (ar_val (de_var 6) ar_nil)))) do_nil))) (do_e (de_callB (call_reprL (Ts := [[(.inr "a", .non)]]) T.sy (by decide) hgd hr.units) reprL_link T.n_repr (by decide +kernel) (do_cons (do_e (de_f (df_lc (own := [("_law_each", 11)]) rfl sc_law.nd (di_range1 rfl T.n_range (da_cons de_int da_nil)) (blkOk_by (N := N_law) (sc := defScope st_law) (by decide +kernel)) (fun _ _ _ _ _ => (dg_name 11 sc_law.nd rfl (by first | exact Or.inl rfl | exact Or.inr rfl))) (fun _ _ _ _ _ => dts_nil) (fun _ _ _ _ _ => (de_var 3))))) do_nil))) (by first | exact nomark _ | rfl))
    (ds_one (ds_ret de_bl))
    ds_nil)
    (ds_one (ds_if (dt_cmp (opNeP (K := K) hr.units) (neX_link (K := K)) (do_e (de_callB (call_reprL (Ts := [[(.inr "a", .non)]]) T.sy (by decide) hgd hr.units) reprL_link T.n_repr (by decide +kernel) (do_cons (do_e (de_callP P_double_fields hgd hr (by decide) (takes_of rfl rfl rfl rfl) (cw_plain (ar_val (de_var 7) ar_nil)))) do_nil))) (do_e (de_callB (call_reprL (Ts := [[(.inr "a", .non)]]) T.sy (by decide) hgd hr.units) reprL_link T.n_repr (by decide +kernel) (do_cons (do_e (de_f (df_lc (own := [("_law_each", 11)]) rfl sc_law.nd (di_range1 rfl T.n_range (da_cons de_int da_nil)) (blkOk_by (N := N_law) (sc := defScope st_law) (by decide +kernel)) (fun _ _ _ _ _ => (dg_name 11 sc_law.nd rfl (by first | exact Or.inl rfl | exact Or.inr rfl))) (fun _ _ _ _ _ => dts_nil) (fun _ _ _ _ _ => (de_lst (da_cons (de_var 3) (da_cons (de_var 4) da_nil))))))) do_nil))) (by first | exact nomark _ | rfl))
    (ds_one (ds_ret de_bl))
    ds_nil)))))))))
    (ds_cons (ds_asgLc 12 (own := [("_law_way", 13)]) rfl sc_law.nd rfl rfl (sw_true rfl rfl rfl (by decide +kernel)) (di_range1 rfl T.n_range (da_cons de_int da_nil)) (blkOk_by (N := N_law) (sc := defScope st_law) (by decide +kernel)) (fun _ _ _ _ _ => (dg_name 13 sc_law.nd rfl (by first | exact Or.inl rfl | exact Or.inr rfl))) (fun _ _ _ _ _ => dts_nil) (fun _ _ _ _ _ => (de_callP P_caught hgd hr (by decide) takes0 (cw_plain (ar_val (de_var 13) ar_nil)))))
    (ds_one (ds_ret (de_cmp (opEqP flatTA hr.units) eq_link (do_var 12) (do_e (de_f (df_lc (own := [("_law_k", 9)]) rfl sc_law.nd (di_seq (K := K) (de_lst (da_cons de_int (da_cons de_int (da_cons de_int da_nil))))) (blkOk_by (N := N_law) (sc := defScope st_law) (by decide +kernel)) (fun _ _ _ _ _ => (dg_name 9 sc_law.nd rfl (by first | exact Or.inl rfl | exact Or.inr rfl))) (fun _ _ _ _ _ => dts_nil) (fun _ _ _ _ _ => (de_f (df_lc (own := [("_law_each", 11)]) rfl sc_law.nd (di_range1 rfl T.n_range (da_cons de_int da_nil)) (blkOk_by (by kernel_rfl)) (fun _ _ _ _ _ => (dg_name 11 sc_law.nd rfl (by first | exact Or.inl rfl | exact Or.inr rfl))) (fun _ _ _ _ _ => dts_nil) (fun _ _ _ _ _ => (de_cmp (opEqP flatTA hr.units) eq_link (do_var 9) (do_var 11) (by first | exact nomark _ | rfl))))))))) (by first | exact nomark _ | rfl)))))))
end
end K01
namespace K01
open PySem PySem.Spec PyProof.Rows L2 Kq StX ClX LamX Kd
open Pg
abbrev st_TooMany : Stmt := inClass (top 22) 0
abbrev st_NoName : Stmt := inClass (top 18) 0
abbrev st_BadCommand : Stmt := inClass (top 16) 0
abbrev st_Taken : Stmt := inClass (top 15) 0
abbrev st_NoWord : Stmt := inClass (top 14) 0
abbrev st_BadList : Stmt := inClass (top 13) 0
abbrev st_BadNode : Stmt := inClass (top 12) 0
abbrev st_BadBook : Stmt := inClass (top 11) 0
abbrev st_Unlike : Stmt := inClass (top 10) 0
abbrev st_BadTree : Stmt := inClass (top 9) 0
abbrev st_BadGroup : Stmt := inClass (top 8) 0
abbrev st_BadOrder : Stmt := inClass (top 7) 0
abbrev st_BadLimit : Stmt := inClass (top 6) 0
abbrev st_BadCount : Stmt := inClass (top 5) 0
abbrev st_BadTruth : Stmt := inClass (top 4) 0
abbrev st_BadPlace : Stmt := inClass (top 3) 0
abbrev st_BadWord : Stmt := inClass (top 2) 0
abbrev st_Clash : Stmt := inClass (top 21) 0
abbrev st_Breaks : Stmt := inClass (top 20) 0
abbrev st_NotPhrase : Stmt := inClass (top 19) 0
abbrev st_BadText : Stmt := inClass (top 17) 0
theorem all_mk {l : PySem.W.OpenLaw} {w : World} {K : PySem.W.Frag} {h : Heap} {mg : PySem.Str → Option Value} {fa : Addr} (LM : ∀ ns : List Int, ns.length ≤ 63 → ∃ as, bodyF N_law.length B_law [.val (.scr ns)] = .ret false (.bl true) as) (X : K.In h) (G : h.Ns mainGlobals mg) (hfa : mg "law" = some (.ref fa))
    {C_PhraseError : Addr}
    {C_BadWord : Addr}
    {C_BadPlace : Addr}
    {C_BadTruth : Addr}
    {C_BadCount : Addr}
    {C_BadLimit : Addr}
    {C_BadOrder : Addr}
    {C_BadGroup : Addr}
    {C_BadTree : Addr}
    {C_Unlike : Addr}
    {C_BadBook : Addr}
    {C_BadNode : Addr}
    {C_BadList : Addr}
    {C_NoWord : Addr}
    {C_Taken : Addr}
    {C_BadCommand : Addr}
    {C_BadText : Addr}
    {C_NoName : Addr}
    {C_NotPhrase : Addr}
    {C_Breaks : Addr}
    {C_Clash : Addr}
    {C_TooMany : Addr}
    {C_NoChange : Addr}
    {C_LastOrder : Addr}
    {od_pen an_pen : Option Addr} {sl_pen : Array (Option Value)} {oc_pen kV_pen dc_pen pm_pen ct_pen : Value} {f_pen : Addr} {cd_pen : Value}
    {od_kinds an_kinds : Option Addr} {sl_kinds : Array (Option Value)} {oc_kinds kV_kinds dc_kinds pm_kinds ct_kinds : Value} {f_kinds : Addr} {cd_kinds : Value}
    {od_caught an_caught : Option Addr} {sl_caught : Array (Option Value)} {oc_caught kV_caught dc_caught pm_caught ct_caught : Value} {f_caught : Addr} {cd_caught : Value}
    {od_draw an_draw : Option Addr} {sl_draw : Array (Option Value)} {oc_draw kV_draw dc_draw pm_draw ct_draw : Value} {f_draw : Addr} {cd_draw : Value}
    {od_pick an_pick : Option Addr} {sl_pick : Array (Option Value)} {oc_pick kV_pick dc_pick pm_pick ct_pick : Value} {f_pick : Addr} {cd_pick : Value}
    {od_value an_value : Option Addr} {sl_value : Array (Option Value)} {oc_value kV_value dc_value pm_value ct_value : Value} {f_value : Addr} {cd_value : Value}
    {od_singles an_singles : Option Addr} {sl_singles : Array (Option Value)} {oc_singles kV_singles dc_singles pm_singles ct_singles : Value} {f_singles : Addr} {cd_singles : Value}
    {od_doubles an_doubles : Option Addr} {sl_doubles : Array (Option Value)} {oc_doubles kV_doubles dc_doubles pm_doubles ct_doubles : Value} {f_doubles : Addr} {cd_doubles : Value}
    {od_single_fields an_single_fields : Option Addr} {sl_single_fields : Array (Option Value)} {oc_single_fields kV_single_fields dc_single_fields pm_single_fields ct_single_fields : Value} {f_single_fields : Addr} {cd_single_fields : Value}
    {od_double_fields an_double_fields : Option Addr} {sl_double_fields : Array (Option Value)} {oc_double_fields kV_double_fields dc_double_fields pm_double_fields ct_double_fields : Value} {f_double_fields : Addr} {cd_double_fields : Value}
    {od_law an_law : Option Addr} {sl_law : Array (Option Value)} {oc_law kV_law dc_law pm_law ct_law : Value} {f_law : Addr} {cd_law : Value}
    {fi_TooMany cc_TooMany cda_TooMany N_TooMany : Addr} {nm_TooMany q_TooMany : PySem.Str} {bs_TooMany bm_TooMany : List Value} {sn_TooMany : List PySem.Str} {sb_TooMany : List Value} {ab_TooMany : Bool} {co_TooMany : Option Bool} {dd_TooMany od_TooMany an_TooMany cd1_TooMany cd2_TooMany : Option Addr} {m0_TooMany m1_TooMany m2_TooMany m3_TooMany m5_TooMany : Option Value} {oc_TooMany kV_TooMany dc_TooMany pm_TooMany ct_TooMany cl_TooMany cl2_TooMany : Value} {sl_TooMany sl1_TooMany sl2_TooMany : Array (Option Value)} {vs_TooMany : Array Value} {fl_TooMany : PySem.Str} {tf_TooMany : Tok}
    {fi_NoName cc_NoName cda_NoName N_NoName : Addr} {nm_NoName q_NoName : PySem.Str} {bs_NoName bm_NoName : List Value} {sn_NoName : List PySem.Str} {sb_NoName : List Value} {ab_NoName : Bool} {co_NoName : Option Bool} {dd_NoName od_NoName an_NoName cd1_NoName cd2_NoName : Option Addr} {m0_NoName m1_NoName m2_NoName m3_NoName m5_NoName : Option Value} {oc_NoName kV_NoName dc_NoName pm_NoName ct_NoName cl_NoName cl2_NoName : Value} {sl_NoName sl1_NoName sl2_NoName : Array (Option Value)} {vs_NoName : Array Value} {fl_NoName : PySem.Str} {tf_NoName : Tok}
    {fi_BadCommand cc_BadCommand cda_BadCommand N_BadCommand : Addr} {nm_BadCommand q_BadCommand : PySem.Str} {bs_BadCommand bm_BadCommand : List Value} {sn_BadCommand : List PySem.Str} {sb_BadCommand : List Value} {ab_BadCommand : Bool} {co_BadCommand : Option Bool} {dd_BadCommand od_BadCommand an_BadCommand cd1_BadCommand cd2_BadCommand : Option Addr} {m0_BadCommand m1_BadCommand m2_BadCommand m3_BadCommand m5_BadCommand : Option Value} {oc_BadCommand kV_BadCommand dc_BadCommand pm_BadCommand ct_BadCommand cl_BadCommand cl2_BadCommand : Value} {sl_BadCommand sl1_BadCommand sl2_BadCommand : Array (Option Value)} {vs_BadCommand : Array Value} {fl_BadCommand : PySem.Str} {tf_BadCommand : Tok}
    {fi_Taken cc_Taken cda_Taken N_Taken : Addr} {nm_Taken q_Taken : PySem.Str} {bs_Taken bm_Taken : List Value} {sn_Taken : List PySem.Str} {sb_Taken : List Value} {ab_Taken : Bool} {co_Taken : Option Bool} {dd_Taken od_Taken an_Taken cd1_Taken cd2_Taken : Option Addr} {m0_Taken m1_Taken m2_Taken m3_Taken m5_Taken : Option Value} {oc_Taken kV_Taken dc_Taken pm_Taken ct_Taken cl_Taken cl2_Taken : Value} {sl_Taken sl1_Taken sl2_Taken : Array (Option Value)} {vs_Taken : Array Value} {fl_Taken : PySem.Str} {tf_Taken : Tok}
    {fi_NoWord cc_NoWord cda_NoWord N_NoWord : Addr} {nm_NoWord q_NoWord : PySem.Str} {bs_NoWord bm_NoWord : List Value} {sn_NoWord : List PySem.Str} {sb_NoWord : List Value} {ab_NoWord : Bool} {co_NoWord : Option Bool} {dd_NoWord od_NoWord an_NoWord cd1_NoWord cd2_NoWord : Option Addr} {m0_NoWord m1_NoWord m2_NoWord m3_NoWord m5_NoWord : Option Value} {oc_NoWord kV_NoWord dc_NoWord pm_NoWord ct_NoWord cl_NoWord cl2_NoWord : Value} {sl_NoWord sl1_NoWord sl2_NoWord : Array (Option Value)} {vs_NoWord : Array Value} {fl_NoWord : PySem.Str} {tf_NoWord : Tok}
    {fi_BadList cc_BadList cda_BadList N_BadList : Addr} {nm_BadList q_BadList : PySem.Str} {bs_BadList bm_BadList : List Value} {sn_BadList : List PySem.Str} {sb_BadList : List Value} {ab_BadList : Bool} {co_BadList : Option Bool} {dd_BadList od_BadList an_BadList cd1_BadList cd2_BadList : Option Addr} {m0_BadList m1_BadList m2_BadList m3_BadList m5_BadList : Option Value} {oc_BadList kV_BadList dc_BadList pm_BadList ct_BadList cl_BadList cl2_BadList : Value} {sl_BadList sl1_BadList sl2_BadList : Array (Option Value)} {vs_BadList : Array Value} {fl_BadList : PySem.Str} {tf_BadList : Tok}
    {fi_BadNode cc_BadNode cda_BadNode N_BadNode : Addr} {nm_BadNode q_BadNode : PySem.Str} {bs_BadNode bm_BadNode : List Value} {sn_BadNode : List PySem.Str} {sb_BadNode : List Value} {ab_BadNode : Bool} {co_BadNode : Option Bool} {dd_BadNode od_BadNode an_BadNode cd1_BadNode cd2_BadNode : Option Addr} {m0_BadNode m1_BadNode m2_BadNode m3_BadNode m5_BadNode : Option Value} {oc_BadNode kV_BadNode dc_BadNode pm_BadNode ct_BadNode cl_BadNode cl2_BadNode : Value} {sl_BadNode sl1_BadNode sl2_BadNode : Array (Option Value)} {vs_BadNode : Array Value} {fl_BadNode : PySem.Str} {tf_BadNode : Tok}
    {fi_BadBook cc_BadBook cda_BadBook N_BadBook : Addr} {nm_BadBook q_BadBook : PySem.Str} {bs_BadBook bm_BadBook : List Value} {sn_BadBook : List PySem.Str} {sb_BadBook : List Value} {ab_BadBook : Bool} {co_BadBook : Option Bool} {dd_BadBook od_BadBook an_BadBook cd1_BadBook cd2_BadBook : Option Addr} {m0_BadBook m1_BadBook m2_BadBook m3_BadBook m5_BadBook : Option Value} {oc_BadBook kV_BadBook dc_BadBook pm_BadBook ct_BadBook cl_BadBook cl2_BadBook : Value} {sl_BadBook sl1_BadBook sl2_BadBook : Array (Option Value)} {vs_BadBook : Array Value} {fl_BadBook : PySem.Str} {tf_BadBook : Tok}
    {fi_Unlike cc_Unlike cda_Unlike N_Unlike : Addr} {nm_Unlike q_Unlike : PySem.Str} {bs_Unlike bm_Unlike : List Value} {sn_Unlike : List PySem.Str} {sb_Unlike : List Value} {ab_Unlike : Bool} {co_Unlike : Option Bool} {dd_Unlike od_Unlike an_Unlike cd1_Unlike cd2_Unlike : Option Addr} {m0_Unlike m1_Unlike m2_Unlike m3_Unlike m5_Unlike : Option Value} {oc_Unlike kV_Unlike dc_Unlike pm_Unlike ct_Unlike cl_Unlike cl2_Unlike : Value} {sl_Unlike sl1_Unlike sl2_Unlike : Array (Option Value)} {vs_Unlike : Array Value} {fl_Unlike : PySem.Str} {tf_Unlike : Tok}
    {fi_BadTree cc_BadTree cda_BadTree N_BadTree : Addr} {nm_BadTree q_BadTree : PySem.Str} {bs_BadTree bm_BadTree : List Value} {sn_BadTree : List PySem.Str} {sb_BadTree : List Value} {ab_BadTree : Bool} {co_BadTree : Option Bool} {dd_BadTree od_BadTree an_BadTree cd1_BadTree cd2_BadTree : Option Addr} {m0_BadTree m1_BadTree m2_BadTree m3_BadTree m5_BadTree : Option Value} {oc_BadTree kV_BadTree dc_BadTree pm_BadTree ct_BadTree cl_BadTree cl2_BadTree : Value} {sl_BadTree sl1_BadTree sl2_BadTree : Array (Option Value)} {vs_BadTree : Array Value} {fl_BadTree : PySem.Str} {tf_BadTree : Tok}
    {fi_BadGroup cc_BadGroup cda_BadGroup N_BadGroup : Addr} {nm_BadGroup q_BadGroup : PySem.Str} {bs_BadGroup bm_BadGroup : List Value} {sn_BadGroup : List PySem.Str} {sb_BadGroup : List Value} {ab_BadGroup : Bool} {co_BadGroup : Option Bool} {dd_BadGroup od_BadGroup an_BadGroup cd1_BadGroup cd2_BadGroup : Option Addr} {m0_BadGroup m1_BadGroup m2_BadGroup m3_BadGroup m5_BadGroup : Option Value} {oc_BadGroup kV_BadGroup dc_BadGroup pm_BadGroup ct_BadGroup cl_BadGroup cl2_BadGroup : Value} {sl_BadGroup sl1_BadGroup sl2_BadGroup : Array (Option Value)} {vs_BadGroup : Array Value} {fl_BadGroup : PySem.Str} {tf_BadGroup : Tok}
    {fi_BadOrder cc_BadOrder cda_BadOrder N_BadOrder : Addr} {nm_BadOrder q_BadOrder : PySem.Str} {bs_BadOrder bm_BadOrder : List Value} {sn_BadOrder : List PySem.Str} {sb_BadOrder : List Value} {ab_BadOrder : Bool} {co_BadOrder : Option Bool} {dd_BadOrder od_BadOrder an_BadOrder cd1_BadOrder cd2_BadOrder : Option Addr} {m0_BadOrder m1_BadOrder m2_BadOrder m3_BadOrder m5_BadOrder : Option Value} {oc_BadOrder kV_BadOrder dc_BadOrder pm_BadOrder ct_BadOrder cl_BadOrder cl2_BadOrder : Value} {sl_BadOrder sl1_BadOrder sl2_BadOrder : Array (Option Value)} {vs_BadOrder : Array Value} {fl_BadOrder : PySem.Str} {tf_BadOrder : Tok}
    {fi_BadLimit cc_BadLimit cda_BadLimit N_BadLimit : Addr} {nm_BadLimit q_BadLimit : PySem.Str} {bs_BadLimit bm_BadLimit : List Value} {sn_BadLimit : List PySem.Str} {sb_BadLimit : List Value} {ab_BadLimit : Bool} {co_BadLimit : Option Bool} {dd_BadLimit od_BadLimit an_BadLimit cd1_BadLimit cd2_BadLimit : Option Addr} {m0_BadLimit m1_BadLimit m2_BadLimit m3_BadLimit m5_BadLimit : Option Value} {oc_BadLimit kV_BadLimit dc_BadLimit pm_BadLimit ct_BadLimit cl_BadLimit cl2_BadLimit : Value} {sl_BadLimit sl1_BadLimit sl2_BadLimit : Array (Option Value)} {vs_BadLimit : Array Value} {fl_BadLimit : PySem.Str} {tf_BadLimit : Tok}
    {fi_BadCount cc_BadCount cda_BadCount N_BadCount : Addr} {nm_BadCount q_BadCount : PySem.Str} {bs_BadCount bm_BadCount : List Value} {sn_BadCount : List PySem.Str} {sb_BadCount : List Value} {ab_BadCount : Bool} {co_BadCount : Option Bool} {dd_BadCount od_BadCount an_BadCount cd1_BadCount cd2_BadCount : Option Addr} {m0_BadCount m1_BadCount m2_BadCount m3_BadCount m5_BadCount : Option Value} {oc_BadCount kV_BadCount dc_BadCount pm_BadCount ct_BadCount cl_BadCount cl2_BadCount : Value} {sl_BadCount sl1_BadCount sl2_BadCount : Array (Option Value)} {vs_BadCount : Array Value} {fl_BadCount : PySem.Str} {tf_BadCount : Tok}
    {fi_BadTruth cc_BadTruth cda_BadTruth N_BadTruth : Addr} {nm_BadTruth q_BadTruth : PySem.Str} {bs_BadTruth bm_BadTruth : List Value} {sn_BadTruth : List PySem.Str} {sb_BadTruth : List Value} {ab_BadTruth : Bool} {co_BadTruth : Option Bool} {dd_BadTruth od_BadTruth an_BadTruth cd1_BadTruth cd2_BadTruth : Option Addr} {m0_BadTruth m1_BadTruth m2_BadTruth m3_BadTruth m5_BadTruth : Option Value} {oc_BadTruth kV_BadTruth dc_BadTruth pm_BadTruth ct_BadTruth cl_BadTruth cl2_BadTruth : Value} {sl_BadTruth sl1_BadTruth sl2_BadTruth : Array (Option Value)} {vs_BadTruth : Array Value} {fl_BadTruth : PySem.Str} {tf_BadTruth : Tok}
    {fi_BadPlace cc_BadPlace cda_BadPlace N_BadPlace : Addr} {nm_BadPlace q_BadPlace : PySem.Str} {bs_BadPlace bm_BadPlace : List Value} {sn_BadPlace : List PySem.Str} {sb_BadPlace : List Value} {ab_BadPlace : Bool} {co_BadPlace : Option Bool} {dd_BadPlace od_BadPlace an_BadPlace cd1_BadPlace cd2_BadPlace : Option Addr} {m0_BadPlace m1_BadPlace m2_BadPlace m3_BadPlace m5_BadPlace : Option Value} {oc_BadPlace kV_BadPlace dc_BadPlace pm_BadPlace ct_BadPlace cl_BadPlace cl2_BadPlace : Value} {sl_BadPlace sl1_BadPlace sl2_BadPlace : Array (Option Value)} {vs_BadPlace : Array Value} {fl_BadPlace : PySem.Str} {tf_BadPlace : Tok}
    {fi_BadWord cc_BadWord cda_BadWord N_BadWord : Addr} {nm_BadWord q_BadWord : PySem.Str} {bs_BadWord bm_BadWord : List Value} {sn_BadWord : List PySem.Str} {sb_BadWord : List Value} {ab_BadWord : Bool} {co_BadWord : Option Bool} {dd_BadWord od_BadWord an_BadWord cd1_BadWord cd2_BadWord : Option Addr} {m0_BadWord m1_BadWord m2_BadWord m3_BadWord m5_BadWord : Option Value} {oc_BadWord kV_BadWord dc_BadWord pm_BadWord ct_BadWord cl_BadWord cl2_BadWord : Value} {sl_BadWord sl1_BadWord sl2_BadWord : Array (Option Value)} {vs_BadWord : Array Value} {fl_BadWord : PySem.Str} {tf_BadWord : Tok}
    {fi_Clash cc_Clash cda_Clash N_Clash : Addr} {nm_Clash q_Clash : PySem.Str} {bs_Clash bm_Clash : List Value} {sn_Clash : List PySem.Str} {sb_Clash : List Value} {ab_Clash : Bool} {co_Clash : Option Bool} {dd_Clash od_Clash an_Clash cd1_Clash cd2_Clash : Option Addr} {m0_Clash m1_Clash m2_Clash m3_Clash m5_Clash : Option Value} {oc_Clash kV_Clash dc_Clash pm_Clash ct_Clash cl_Clash cl2_Clash : Value} {sl_Clash sl1_Clash sl2_Clash : Array (Option Value)} {vs_Clash : Array Value} {fl_Clash : PySem.Str} {tf_Clash : Tok}
    {fi_Breaks cc_Breaks cda_Breaks N_Breaks : Addr} {nm_Breaks q_Breaks : PySem.Str} {bs_Breaks bm_Breaks : List Value} {sn_Breaks : List PySem.Str} {sb_Breaks : List Value} {ab_Breaks : Bool} {co_Breaks : Option Bool} {dd_Breaks od_Breaks an_Breaks cd1_Breaks cd2_Breaks : Option Addr} {m0_Breaks m1_Breaks m2_Breaks m3_Breaks m5_Breaks : Option Value} {oc_Breaks kV_Breaks dc_Breaks pm_Breaks ct_Breaks cl_Breaks cl2_Breaks : Value} {sl_Breaks sl1_Breaks sl2_Breaks : Array (Option Value)} {vs_Breaks : Array Value} {fl_Breaks : PySem.Str} {tf_Breaks : Tok}
    {fi_NotPhrase cc_NotPhrase cda_NotPhrase N_NotPhrase : Addr} {nm_NotPhrase q_NotPhrase : PySem.Str} {bs_NotPhrase bm_NotPhrase : List Value} {sn_NotPhrase : List PySem.Str} {sb_NotPhrase : List Value} {ab_NotPhrase : Bool} {co_NotPhrase : Option Bool} {dd_NotPhrase od_NotPhrase an_NotPhrase cd1_NotPhrase cd2_NotPhrase : Option Addr} {m0_NotPhrase m1_NotPhrase m2_NotPhrase m3_NotPhrase m5_NotPhrase : Option Value} {oc_NotPhrase kV_NotPhrase dc_NotPhrase pm_NotPhrase ct_NotPhrase cl_NotPhrase cl2_NotPhrase : Value} {sl_NotPhrase sl1_NotPhrase sl2_NotPhrase : Array (Option Value)} {vs_NotPhrase : Array Value} {fl_NotPhrase : PySem.Str} {tf_NotPhrase : Tok}
    {fi_BadText cc_BadText cda_BadText N_BadText : Addr} {nm_BadText q_BadText : PySem.Str} {bs_BadText bm_BadText : List Value} {sn_BadText : List PySem.Str} {sb_BadText : List Value} {ab_BadText : Bool} {co_BadText : Option Bool} {dd_BadText od_BadText an_BadText cd1_BadText cd2_BadText : Option Addr} {m0_BadText m1_BadText m2_BadText m3_BadText m5_BadText : Option Value} {oc_BadText kV_BadText dc_BadText pm_BadText ct_BadText cl_BadText cl2_BadText : Value} {sl_BadText sl1_BadText sl2_BadText : Array (Option Value)} {vs_BadText : Array Value} {fl_BadText : PySem.Str} {tf_BadText : Tok}
    (aC_PhraseError : PySem.W.nsIn K mainGlobals "PhraseError" = some (some (.ref C_PhraseError)))
    (aC_BadWord : PySem.W.nsIn K mainGlobals "BadWord" = some (some (.ref C_BadWord)))
    (aC_BadPlace : PySem.W.nsIn K mainGlobals "BadPlace" = some (some (.ref C_BadPlace)))
    (aC_BadTruth : PySem.W.nsIn K mainGlobals "BadTruth" = some (some (.ref C_BadTruth)))
    (aC_BadCount : PySem.W.nsIn K mainGlobals "BadCount" = some (some (.ref C_BadCount)))
    (aC_BadLimit : PySem.W.nsIn K mainGlobals "BadLimit" = some (some (.ref C_BadLimit)))
    (aC_BadOrder : PySem.W.nsIn K mainGlobals "BadOrder" = some (some (.ref C_BadOrder)))
    (aC_BadGroup : PySem.W.nsIn K mainGlobals "BadGroup" = some (some (.ref C_BadGroup)))
    (aC_BadTree : PySem.W.nsIn K mainGlobals "BadTree" = some (some (.ref C_BadTree)))
    (aC_Unlike : PySem.W.nsIn K mainGlobals "Unlike" = some (some (.ref C_Unlike)))
    (aC_BadBook : PySem.W.nsIn K mainGlobals "BadBook" = some (some (.ref C_BadBook)))
    (aC_BadNode : PySem.W.nsIn K mainGlobals "BadNode" = some (some (.ref C_BadNode)))
    (aC_BadList : PySem.W.nsIn K mainGlobals "BadList" = some (some (.ref C_BadList)))
    (aC_NoWord : PySem.W.nsIn K mainGlobals "NoWord" = some (some (.ref C_NoWord)))
    (aC_Taken : PySem.W.nsIn K mainGlobals "Taken" = some (some (.ref C_Taken)))
    (aC_BadCommand : PySem.W.nsIn K mainGlobals "BadCommand" = some (some (.ref C_BadCommand)))
    (aC_BadText : PySem.W.nsIn K mainGlobals "BadText" = some (some (.ref C_BadText)))
    (aC_NoName : PySem.W.nsIn K mainGlobals "NoName" = some (some (.ref C_NoName)))
    (aC_NotPhrase : PySem.W.nsIn K mainGlobals "NotPhrase" = some (some (.ref C_NotPhrase)))
    (aC_Breaks : PySem.W.nsIn K mainGlobals "Breaks" = some (some (.ref C_Breaks)))
    (aC_Clash : PySem.W.nsIn K mainGlobals "Clash" = some (some (.ref C_Clash)))
    (aC_TooMany : PySem.W.nsIn K mainGlobals "TooMany" = some (some (.ref C_TooMany)))
    (aC_NoChange : PySem.W.nsIn K mainGlobals "NoChange" = some (some (.ref C_NoChange)))
    (aC_LastOrder : PySem.W.nsIn K mainGlobals "LastOrder" = some (some (.ref C_LastOrder)))
    (a_pen : PySem.W.nsIn K mainGlobals "_law_pen" = some (some (.ref f_pen)))
    (l_pen : K.lookup f_pen = some ⟨oc_pen, od_pen, .func (PySem.W.fnOf "_law_pen" "_law_pen" (defArgs st_pen) (defBody st_pen) (defScope st_pen) .none kV_pen dc_pen pm_pen an_pen cd_pen ct_pen), sl_pen⟩)
    (c_pen : PySem.W.codeIn K cd_pen "_law_pen" = true)
    (k_pen : PySem.W.keepIn K (.ref f_pen) = true)
    (a_kinds : PySem.W.nsIn K mainGlobals "_law_kinds" = some (some (.ref f_kinds)))
    (l_kinds : K.lookup f_kinds = some ⟨oc_kinds, od_kinds, .func (PySem.W.fnOf "_law_kinds" "_law_kinds" (defArgs st_kinds) (defBody st_kinds) (defScope st_kinds) .none kV_kinds dc_kinds pm_kinds an_kinds cd_kinds ct_kinds), sl_kinds⟩)
    (c_kinds : PySem.W.codeIn K cd_kinds "_law_kinds" = true)
    (k_kinds : PySem.W.keepIn K (.ref f_kinds) = true)
    (a_caught : PySem.W.nsIn K mainGlobals "_law_caught" = some (some (.ref f_caught)))
    (l_caught : K.lookup f_caught = some ⟨oc_caught, od_caught, .func (PySem.W.fnOf "_law_caught" "_law_caught" (defArgs st_caught) (defBody st_caught) (defScope st_caught) .none kV_caught dc_caught pm_caught an_caught cd_caught ct_caught), sl_caught⟩)
    (c_caught : PySem.W.codeIn K cd_caught "_law_caught" = true)
    (k_caught : PySem.W.keepIn K (.ref f_caught) = true)
    (a_draw : PySem.W.nsIn K mainGlobals "_law_draw" = some (some (.ref f_draw)))
    (l_draw : K.lookup f_draw = some ⟨oc_draw, od_draw, .func (PySem.W.fnOf "_law_draw" "_law_draw" (defArgs st_draw) (defBody st_draw) (defScope st_draw) .none kV_draw dc_draw pm_draw an_draw cd_draw ct_draw), sl_draw⟩)
    (c_draw : PySem.W.codeIn K cd_draw "_law_draw" = true)
    (k_draw : PySem.W.keepIn K (.ref f_draw) = true)
    (a_pick : PySem.W.nsIn K mainGlobals "_law_pick" = some (some (.ref f_pick)))
    (l_pick : K.lookup f_pick = some ⟨oc_pick, od_pick, .func (PySem.W.fnOf "_law_pick" "_law_pick" (defArgs st_pick) (defBody st_pick) (defScope st_pick) .none kV_pick dc_pick pm_pick an_pick cd_pick ct_pick), sl_pick⟩)
    (c_pick : PySem.W.codeIn K cd_pick "_law_pick" = true)
    (k_pick : PySem.W.keepIn K (.ref f_pick) = true)
    (a_value : PySem.W.nsIn K mainGlobals "_law_value" = some (some (.ref f_value)))
    (l_value : K.lookup f_value = some ⟨oc_value, od_value, .func (PySem.W.fnOf "_law_value" "_law_value" (defArgs st_value) (defBody st_value) (defScope st_value) .none kV_value dc_value pm_value an_value cd_value ct_value), sl_value⟩)
    (c_value : PySem.W.codeIn K cd_value "_law_value" = true)
    (k_value : PySem.W.keepIn K (.ref f_value) = true)
    (a_singles : PySem.W.nsIn K mainGlobals "_law_singles" = some (some (.ref f_singles)))
    (l_singles : K.lookup f_singles = some ⟨oc_singles, od_singles, .func (PySem.W.fnOf "_law_singles" "_law_singles" (defArgs st_singles) (defBody st_singles) (defScope st_singles) .none kV_singles dc_singles pm_singles an_singles cd_singles ct_singles), sl_singles⟩)
    (c_singles : PySem.W.codeIn K cd_singles "_law_singles" = true)
    (k_singles : PySem.W.keepIn K (.ref f_singles) = true)
    (a_doubles : PySem.W.nsIn K mainGlobals "_law_doubles" = some (some (.ref f_doubles)))
    (l_doubles : K.lookup f_doubles = some ⟨oc_doubles, od_doubles, .func (PySem.W.fnOf "_law_doubles" "_law_doubles" (defArgs st_doubles) (defBody st_doubles) (defScope st_doubles) .none kV_doubles dc_doubles pm_doubles an_doubles cd_doubles ct_doubles), sl_doubles⟩)
    (c_doubles : PySem.W.codeIn K cd_doubles "_law_doubles" = true)
    (k_doubles : PySem.W.keepIn K (.ref f_doubles) = true)
    (a_single_fields : PySem.W.nsIn K mainGlobals "_law_single_fields" = some (some (.ref f_single_fields)))
    (l_single_fields : K.lookup f_single_fields = some ⟨oc_single_fields, od_single_fields, .func (PySem.W.fnOf "_law_single_fields" "_law_single_fields" (defArgs st_single_fields) (defBody st_single_fields) (defScope st_single_fields) .none kV_single_fields dc_single_fields pm_single_fields an_single_fields cd_single_fields ct_single_fields), sl_single_fields⟩)
    (c_single_fields : PySem.W.codeIn K cd_single_fields "_law_single_fields" = true)
    (k_single_fields : PySem.W.keepIn K (.ref f_single_fields) = true)
    (a_double_fields : PySem.W.nsIn K mainGlobals "_law_double_fields" = some (some (.ref f_double_fields)))
    (l_double_fields : K.lookup f_double_fields = some ⟨oc_double_fields, od_double_fields, .func (PySem.W.fnOf "_law_double_fields" "_law_double_fields" (defArgs st_double_fields) (defBody st_double_fields) (defScope st_double_fields) .none kV_double_fields dc_double_fields pm_double_fields an_double_fields cd_double_fields ct_double_fields), sl_double_fields⟩)
    (c_double_fields : PySem.W.codeIn K cd_double_fields "_law_double_fields" = true)
    (k_double_fields : PySem.W.keepIn K (.ref f_double_fields) = true)
    (a_law : PySem.W.nsIn K mainGlobals "law" = some (some (.ref f_law)))
    (l_law : K.lookup f_law = some ⟨oc_law, od_law, .func (PySem.W.fnOf "law" "law" (defArgs st_law) (defBody st_law) (defScope st_law) .none kV_law dc_law pm_law an_law cd_law ct_law), sl_law⟩)
    (c_law : PySem.W.codeIn K cd_law "law" = true)
    (k_law : PySem.W.keepIn K (.ref f_law) = true)
    (z_list : PySem.W.nsIn K mainGlobals "list" = some none)
    (z_isinstance : PySem.W.nsIn K mainGlobals "isinstance" = some none)
    (xL_TooMany : K.lookup C_TooMany = some (PySem.excClassObj nm_TooMany q_TooMany C_TooMany N_TooMany bs_TooMany bm_TooMany true sn_TooMany sb_TooMany ab_TooMany co_TooMany dd_TooMany m0_TooMany m1_TooMany m2_TooMany m3_TooMany m5_TooMany "ValueError.__new__"))
    (rv_TooMany : PySem.HandSPX.refsVE bm_TooMany = true)
    (al_TooMany : PySem.W.alongIn K "__init__" bm_TooMany = some (some (.builtin "ValueError.__init__")))
    (sa_TooMany : PySem.W.findIn K (.ref C_TooMany) "__setattr__" = some (some (.builtin "object.__setattr__")))
    (iC_TooMany : PySem.W.findIn K (.ref C_TooMany) "__init__" = some (some (.ref fi_TooMany)))
    (tC_TooMany : PySem.W.typeIn K (.ref fi_TooMany) = some (.type "function"))
    (kC_TooMany : PySem.W.keepIn K (.ref C_TooMany) = true)
    (eC_TooMany : PySem.W.subIn K (.ref C_TooMany) (.type "BaseException") = some true)
    (vC_TooMany : PySem.W.subIn K (.ref C_TooMany) (.type "ValueError") = some true)
    (sf_TooMany : PySem.W.mroIn K C_TooMany (.ref C_TooMany) = some true)
    (ty_TooMany : PySem.W.typeIn K (.ref C_TooMany) = some (.type "type"))
    (fn_TooMany : K.lookup fi_TooMany = some ⟨oc_TooMany, od_TooMany, .func (PySem.W.ksFn "__init__" "TooMany.__init__" (defArgs st_TooMany) (defBody st_TooMany) (defScope st_TooMany) .none kV_TooMany dc_TooMany pm_TooMany an_TooMany (.ref cda_TooMany) ct_TooMany cc_TooMany), sl_TooMany⟩)
    (ce_TooMany : K.lookup cc_TooMany = some ⟨cl_TooMany, cd1_TooMany, .cell (some (.ref C_TooMany)), sl1_TooMany⟩)
    (cod_TooMany : K.lookup cda_TooMany = some ⟨cl2_TooMany, cd2_TooMany, .fields vs_TooMany, sl2_TooMany⟩)
    (vf_TooMany : vs_TooMany[2]? = some (.str fl_TooMany tf_TooMany))
    (ff_TooMany : ((l.prog.main.file : PySem.Str) == fl_TooMany) = true)
    (cd_TooMany : PySem.W.codeIn K (.ref cda_TooMany) "TooMany.__init__" = true)
    (no_what_TooMany : PySem.W.findIn K (.ref C_TooMany) "what" = some none)
    (no_most_TooMany : PySem.W.findIn K (.ref C_TooMany) "most" = some none)
    (z0_LastOrder : PySem.W.excIn K C_LastOrder [.type "ValueError", .type "Exception", .type "BaseException", .type "object"] "ValueError.__new__" = true)
    (zk_LastOrder : PySem.W.keepIn K (.ref C_LastOrder) = true)
    (ze_LastOrder : PySem.W.subIn K (.ref C_LastOrder) (.type "BaseException") = some true)
    (zt_LastOrder : PySem.W.typeIn K (.ref C_LastOrder) = some (.type "type"))
    (z0_NoChange : PySem.W.excIn K C_NoChange [.type "ValueError", .type "Exception", .type "BaseException", .type "object"] "ValueError.__new__" = true)
    (zk_NoChange : PySem.W.keepIn K (.ref C_NoChange) = true)
    (ze_NoChange : PySem.W.subIn K (.ref C_NoChange) (.type "BaseException") = some true)
    (zt_NoChange : PySem.W.typeIn K (.ref C_NoChange) = some (.type "type"))
    (hs_PhraseError : subB K ([("PhraseError", C_PhraseError), ("BadWord", C_BadWord), ("BadPlace", C_BadPlace), ("BadTruth", C_BadTruth), ("BadCount", C_BadCount), ("BadLimit", C_BadLimit), ("BadOrder", C_BadOrder), ("BadGroup", C_BadGroup), ("BadTree", C_BadTree), ("Unlike", C_Unlike), ("BadBook", C_BadBook), ("BadNode", C_BadNode), ("BadList", C_BadList), ("NoWord", C_NoWord), ("Taken", C_Taken), ("BadCommand", C_BadCommand), ("BadText", C_BadText), ("NoName", C_NoName), ("NotPhrase", C_NotPhrase), ("Breaks", C_Breaks), ("Clash", C_Clash), ("TooMany", C_TooMany), ("NoChange", C_NoChange), ("LastOrder", C_LastOrder)] : List (PySem.Str × Addr)) (.ref C_PhraseError) Pg.sub_PhraseError = true)
    (z_int : PySem.W.nsIn K mainGlobals "int" = some none)
    (z_abs : PySem.W.nsIn K mainGlobals "abs" = some none)
    (z_len : PySem.W.nsIn K mainGlobals "len" = some none)
    (xL_NoName : K.lookup C_NoName = some (PySem.excClassObj nm_NoName q_NoName C_NoName N_NoName bs_NoName bm_NoName true sn_NoName sb_NoName ab_NoName co_NoName dd_NoName m0_NoName m1_NoName m2_NoName m3_NoName m5_NoName "ValueError.__new__"))
    (rv_NoName : PySem.HandSPX.refsVE bm_NoName = true)
    (al_NoName : PySem.W.alongIn K "__init__" bm_NoName = some (some (.builtin "ValueError.__init__")))
    (sa_NoName : PySem.W.findIn K (.ref C_NoName) "__setattr__" = some (some (.builtin "object.__setattr__")))
    (iC_NoName : PySem.W.findIn K (.ref C_NoName) "__init__" = some (some (.ref fi_NoName)))
    (tC_NoName : PySem.W.typeIn K (.ref fi_NoName) = some (.type "function"))
    (kC_NoName : PySem.W.keepIn K (.ref C_NoName) = true)
    (eC_NoName : PySem.W.subIn K (.ref C_NoName) (.type "BaseException") = some true)
    (vC_NoName : PySem.W.subIn K (.ref C_NoName) (.type "ValueError") = some true)
    (sf_NoName : PySem.W.mroIn K C_NoName (.ref C_NoName) = some true)
    (ty_NoName : PySem.W.typeIn K (.ref C_NoName) = some (.type "type"))
    (fn_NoName : K.lookup fi_NoName = some ⟨oc_NoName, od_NoName, .func (PySem.W.ksFn "__init__" "NoName.__init__" (defArgs st_NoName) (defBody st_NoName) (defScope st_NoName) .none kV_NoName dc_NoName pm_NoName an_NoName (.ref cda_NoName) ct_NoName cc_NoName), sl_NoName⟩)
    (ce_NoName : K.lookup cc_NoName = some ⟨cl_NoName, cd1_NoName, .cell (some (.ref C_NoName)), sl1_NoName⟩)
    (cod_NoName : K.lookup cda_NoName = some ⟨cl2_NoName, cd2_NoName, .fields vs_NoName, sl2_NoName⟩)
    (vf_NoName : vs_NoName[2]? = some (.str fl_NoName tf_NoName))
    (ff_NoName : ((l.prog.main.file : PySem.Str) == fl_NoName) = true)
    (cd_NoName : PySem.W.codeIn K (.ref cda_NoName) "NoName.__init__" = true)
    (no_name_NoName : PySem.W.findIn K (.ref C_NoName) "name" = some none)
    (xL_BadCommand : K.lookup C_BadCommand = some (PySem.excClassObj nm_BadCommand q_BadCommand C_BadCommand N_BadCommand bs_BadCommand bm_BadCommand true sn_BadCommand sb_BadCommand ab_BadCommand co_BadCommand dd_BadCommand m0_BadCommand m1_BadCommand m2_BadCommand m3_BadCommand m5_BadCommand "ValueError.__new__"))
    (rv_BadCommand : PySem.HandSPX.refsVE bm_BadCommand = true)
    (al_BadCommand : PySem.W.alongIn K "__init__" bm_BadCommand = some (some (.builtin "ValueError.__init__")))
    (sa_BadCommand : PySem.W.findIn K (.ref C_BadCommand) "__setattr__" = some (some (.builtin "object.__setattr__")))
    (iC_BadCommand : PySem.W.findIn K (.ref C_BadCommand) "__init__" = some (some (.ref fi_BadCommand)))
    (tC_BadCommand : PySem.W.typeIn K (.ref fi_BadCommand) = some (.type "function"))
    (kC_BadCommand : PySem.W.keepIn K (.ref C_BadCommand) = true)
    (eC_BadCommand : PySem.W.subIn K (.ref C_BadCommand) (.type "BaseException") = some true)
    (vC_BadCommand : PySem.W.subIn K (.ref C_BadCommand) (.type "ValueError") = some true)
    (sf_BadCommand : PySem.W.mroIn K C_BadCommand (.ref C_BadCommand) = some true)
    (ty_BadCommand : PySem.W.typeIn K (.ref C_BadCommand) = some (.type "type"))
    (fn_BadCommand : K.lookup fi_BadCommand = some ⟨oc_BadCommand, od_BadCommand, .func (PySem.W.ksFn "__init__" "BadCommand.__init__" (defArgs st_BadCommand) (defBody st_BadCommand) (defScope st_BadCommand) .none kV_BadCommand dc_BadCommand pm_BadCommand an_BadCommand (.ref cda_BadCommand) ct_BadCommand cc_BadCommand), sl_BadCommand⟩)
    (ce_BadCommand : K.lookup cc_BadCommand = some ⟨cl_BadCommand, cd1_BadCommand, .cell (some (.ref C_BadCommand)), sl1_BadCommand⟩)
    (cod_BadCommand : K.lookup cda_BadCommand = some ⟨cl2_BadCommand, cd2_BadCommand, .fields vs_BadCommand, sl2_BadCommand⟩)
    (vf_BadCommand : vs_BadCommand[2]? = some (.str fl_BadCommand tf_BadCommand))
    (ff_BadCommand : ((l.prog.main.file : PySem.Str) == fl_BadCommand) = true)
    (cd_BadCommand : PySem.W.codeIn K (.ref cda_BadCommand) "BadCommand.__init__" = true)
    (no_word_BadCommand : PySem.W.findIn K (.ref C_BadCommand) "word" = some none)
    (xL_Taken : K.lookup C_Taken = some (PySem.excClassObj nm_Taken q_Taken C_Taken N_Taken bs_Taken bm_Taken true sn_Taken sb_Taken ab_Taken co_Taken dd_Taken m0_Taken m1_Taken m2_Taken m3_Taken m5_Taken "ValueError.__new__"))
    (rv_Taken : PySem.HandSPX.refsVE bm_Taken = true)
    (al_Taken : PySem.W.alongIn K "__init__" bm_Taken = some (some (.builtin "ValueError.__init__")))
    (sa_Taken : PySem.W.findIn K (.ref C_Taken) "__setattr__" = some (some (.builtin "object.__setattr__")))
    (iC_Taken : PySem.W.findIn K (.ref C_Taken) "__init__" = some (some (.ref fi_Taken)))
    (tC_Taken : PySem.W.typeIn K (.ref fi_Taken) = some (.type "function"))
    (kC_Taken : PySem.W.keepIn K (.ref C_Taken) = true)
    (eC_Taken : PySem.W.subIn K (.ref C_Taken) (.type "BaseException") = some true)
    (vC_Taken : PySem.W.subIn K (.ref C_Taken) (.type "ValueError") = some true)
    (sf_Taken : PySem.W.mroIn K C_Taken (.ref C_Taken) = some true)
    (ty_Taken : PySem.W.typeIn K (.ref C_Taken) = some (.type "type"))
    (fn_Taken : K.lookup fi_Taken = some ⟨oc_Taken, od_Taken, .func (PySem.W.ksFn "__init__" "Taken.__init__" (defArgs st_Taken) (defBody st_Taken) (defScope st_Taken) .none kV_Taken dc_Taken pm_Taken an_Taken (.ref cda_Taken) ct_Taken cc_Taken), sl_Taken⟩)
    (ce_Taken : K.lookup cc_Taken = some ⟨cl_Taken, cd1_Taken, .cell (some (.ref C_Taken)), sl1_Taken⟩)
    (cod_Taken : K.lookup cda_Taken = some ⟨cl2_Taken, cd2_Taken, .fields vs_Taken, sl2_Taken⟩)
    (vf_Taken : vs_Taken[2]? = some (.str fl_Taken tf_Taken))
    (ff_Taken : ((l.prog.main.file : PySem.Str) == fl_Taken) = true)
    (cd_Taken : PySem.W.codeIn K (.ref cda_Taken) "Taken.__init__" = true)
    (no_word_Taken : PySem.W.findIn K (.ref C_Taken) "word" = some none)
    (xL_NoWord : K.lookup C_NoWord = some (PySem.excClassObj nm_NoWord q_NoWord C_NoWord N_NoWord bs_NoWord bm_NoWord true sn_NoWord sb_NoWord ab_NoWord co_NoWord dd_NoWord m0_NoWord m1_NoWord m2_NoWord m3_NoWord m5_NoWord "ValueError.__new__"))
    (rv_NoWord : PySem.HandSPX.refsVE bm_NoWord = true)
    (al_NoWord : PySem.W.alongIn K "__init__" bm_NoWord = some (some (.builtin "ValueError.__init__")))
    (sa_NoWord : PySem.W.findIn K (.ref C_NoWord) "__setattr__" = some (some (.builtin "object.__setattr__")))
    (iC_NoWord : PySem.W.findIn K (.ref C_NoWord) "__init__" = some (some (.ref fi_NoWord)))
    (tC_NoWord : PySem.W.typeIn K (.ref fi_NoWord) = some (.type "function"))
    (kC_NoWord : PySem.W.keepIn K (.ref C_NoWord) = true)
    (eC_NoWord : PySem.W.subIn K (.ref C_NoWord) (.type "BaseException") = some true)
    (vC_NoWord : PySem.W.subIn K (.ref C_NoWord) (.type "ValueError") = some true)
    (sf_NoWord : PySem.W.mroIn K C_NoWord (.ref C_NoWord) = some true)
    (ty_NoWord : PySem.W.typeIn K (.ref C_NoWord) = some (.type "type"))
    (fn_NoWord : K.lookup fi_NoWord = some ⟨oc_NoWord, od_NoWord, .func (PySem.W.ksFn "__init__" "NoWord.__init__" (defArgs st_NoWord) (defBody st_NoWord) (defScope st_NoWord) .none kV_NoWord dc_NoWord pm_NoWord an_NoWord (.ref cda_NoWord) ct_NoWord cc_NoWord), sl_NoWord⟩)
    (ce_NoWord : K.lookup cc_NoWord = some ⟨cl_NoWord, cd1_NoWord, .cell (some (.ref C_NoWord)), sl1_NoWord⟩)
    (cod_NoWord : K.lookup cda_NoWord = some ⟨cl2_NoWord, cd2_NoWord, .fields vs_NoWord, sl2_NoWord⟩)
    (vf_NoWord : vs_NoWord[2]? = some (.str fl_NoWord tf_NoWord))
    (ff_NoWord : ((l.prog.main.file : PySem.Str) == fl_NoWord) = true)
    (cd_NoWord : PySem.W.codeIn K (.ref cda_NoWord) "NoWord.__init__" = true)
    (no_word_NoWord : PySem.W.findIn K (.ref C_NoWord) "word" = some none)
    (xL_BadList : K.lookup C_BadList = some (PySem.excClassObj nm_BadList q_BadList C_BadList N_BadList bs_BadList bm_BadList true sn_BadList sb_BadList ab_BadList co_BadList dd_BadList m0_BadList m1_BadList m2_BadList m3_BadList m5_BadList "ValueError.__new__"))
    (rv_BadList : PySem.HandSPX.refsVE bm_BadList = true)
    (al_BadList : PySem.W.alongIn K "__init__" bm_BadList = some (some (.builtin "ValueError.__init__")))
    (sa_BadList : PySem.W.findIn K (.ref C_BadList) "__setattr__" = some (some (.builtin "object.__setattr__")))
    (iC_BadList : PySem.W.findIn K (.ref C_BadList) "__init__" = some (some (.ref fi_BadList)))
    (tC_BadList : PySem.W.typeIn K (.ref fi_BadList) = some (.type "function"))
    (kC_BadList : PySem.W.keepIn K (.ref C_BadList) = true)
    (eC_BadList : PySem.W.subIn K (.ref C_BadList) (.type "BaseException") = some true)
    (vC_BadList : PySem.W.subIn K (.ref C_BadList) (.type "ValueError") = some true)
    (sf_BadList : PySem.W.mroIn K C_BadList (.ref C_BadList) = some true)
    (ty_BadList : PySem.W.typeIn K (.ref C_BadList) = some (.type "type"))
    (fn_BadList : K.lookup fi_BadList = some ⟨oc_BadList, od_BadList, .func (PySem.W.ksFn "__init__" "BadList.__init__" (defArgs st_BadList) (defBody st_BadList) (defScope st_BadList) .none kV_BadList dc_BadList pm_BadList an_BadList (.ref cda_BadList) ct_BadList cc_BadList), sl_BadList⟩)
    (ce_BadList : K.lookup cc_BadList = some ⟨cl_BadList, cd1_BadList, .cell (some (.ref C_BadList)), sl1_BadList⟩)
    (cod_BadList : K.lookup cda_BadList = some ⟨cl2_BadList, cd2_BadList, .fields vs_BadList, sl2_BadList⟩)
    (vf_BadList : vs_BadList[2]? = some (.str fl_BadList tf_BadList))
    (ff_BadList : ((l.prog.main.file : PySem.Str) == fl_BadList) = true)
    (cd_BadList : PySem.W.codeIn K (.ref cda_BadList) "BadList.__init__" = true)
    (no_at_BadList : PySem.W.findIn K (.ref C_BadList) "at" = some none)
    (xL_BadNode : K.lookup C_BadNode = some (PySem.excClassObj nm_BadNode q_BadNode C_BadNode N_BadNode bs_BadNode bm_BadNode true sn_BadNode sb_BadNode ab_BadNode co_BadNode dd_BadNode m0_BadNode m1_BadNode m2_BadNode m3_BadNode m5_BadNode "ValueError.__new__"))
    (rv_BadNode : PySem.HandSPX.refsVE bm_BadNode = true)
    (al_BadNode : PySem.W.alongIn K "__init__" bm_BadNode = some (some (.builtin "ValueError.__init__")))
    (sa_BadNode : PySem.W.findIn K (.ref C_BadNode) "__setattr__" = some (some (.builtin "object.__setattr__")))
    (iC_BadNode : PySem.W.findIn K (.ref C_BadNode) "__init__" = some (some (.ref fi_BadNode)))
    (tC_BadNode : PySem.W.typeIn K (.ref fi_BadNode) = some (.type "function"))
    (kC_BadNode : PySem.W.keepIn K (.ref C_BadNode) = true)
    (eC_BadNode : PySem.W.subIn K (.ref C_BadNode) (.type "BaseException") = some true)
    (vC_BadNode : PySem.W.subIn K (.ref C_BadNode) (.type "ValueError") = some true)
    (sf_BadNode : PySem.W.mroIn K C_BadNode (.ref C_BadNode) = some true)
    (ty_BadNode : PySem.W.typeIn K (.ref C_BadNode) = some (.type "type"))
    (fn_BadNode : K.lookup fi_BadNode = some ⟨oc_BadNode, od_BadNode, .func (PySem.W.ksFn "__init__" "BadNode.__init__" (defArgs st_BadNode) (defBody st_BadNode) (defScope st_BadNode) .none kV_BadNode dc_BadNode pm_BadNode an_BadNode (.ref cda_BadNode) ct_BadNode cc_BadNode), sl_BadNode⟩)
    (ce_BadNode : K.lookup cc_BadNode = some ⟨cl_BadNode, cd1_BadNode, .cell (some (.ref C_BadNode)), sl1_BadNode⟩)
    (cod_BadNode : K.lookup cda_BadNode = some ⟨cl2_BadNode, cd2_BadNode, .fields vs_BadNode, sl2_BadNode⟩)
    (vf_BadNode : vs_BadNode[2]? = some (.str fl_BadNode tf_BadNode))
    (ff_BadNode : ((l.prog.main.file : PySem.Str) == fl_BadNode) = true)
    (cd_BadNode : PySem.W.codeIn K (.ref cda_BadNode) "BadNode.__init__" = true)
    (no_at_BadNode : PySem.W.findIn K (.ref C_BadNode) "at" = some none)
    (xL_BadBook : K.lookup C_BadBook = some (PySem.excClassObj nm_BadBook q_BadBook C_BadBook N_BadBook bs_BadBook bm_BadBook true sn_BadBook sb_BadBook ab_BadBook co_BadBook dd_BadBook m0_BadBook m1_BadBook m2_BadBook m3_BadBook m5_BadBook "ValueError.__new__"))
    (rv_BadBook : PySem.HandSPX.refsVE bm_BadBook = true)
    (al_BadBook : PySem.W.alongIn K "__init__" bm_BadBook = some (some (.builtin "ValueError.__init__")))
    (sa_BadBook : PySem.W.findIn K (.ref C_BadBook) "__setattr__" = some (some (.builtin "object.__setattr__")))
    (iC_BadBook : PySem.W.findIn K (.ref C_BadBook) "__init__" = some (some (.ref fi_BadBook)))
    (tC_BadBook : PySem.W.typeIn K (.ref fi_BadBook) = some (.type "function"))
    (kC_BadBook : PySem.W.keepIn K (.ref C_BadBook) = true)
    (eC_BadBook : PySem.W.subIn K (.ref C_BadBook) (.type "BaseException") = some true)
    (vC_BadBook : PySem.W.subIn K (.ref C_BadBook) (.type "ValueError") = some true)
    (sf_BadBook : PySem.W.mroIn K C_BadBook (.ref C_BadBook) = some true)
    (ty_BadBook : PySem.W.typeIn K (.ref C_BadBook) = some (.type "type"))
    (fn_BadBook : K.lookup fi_BadBook = some ⟨oc_BadBook, od_BadBook, .func (PySem.W.ksFn "__init__" "BadBook.__init__" (defArgs st_BadBook) (defBody st_BadBook) (defScope st_BadBook) .none kV_BadBook dc_BadBook pm_BadBook an_BadBook (.ref cda_BadBook) ct_BadBook cc_BadBook), sl_BadBook⟩)
    (ce_BadBook : K.lookup cc_BadBook = some ⟨cl_BadBook, cd1_BadBook, .cell (some (.ref C_BadBook)), sl1_BadBook⟩)
    (cod_BadBook : K.lookup cda_BadBook = some ⟨cl2_BadBook, cd2_BadBook, .fields vs_BadBook, sl2_BadBook⟩)
    (vf_BadBook : vs_BadBook[2]? = some (.str fl_BadBook tf_BadBook))
    (ff_BadBook : ((l.prog.main.file : PySem.Str) == fl_BadBook) = true)
    (cd_BadBook : PySem.W.codeIn K (.ref cda_BadBook) "BadBook.__init__" = true)
    (no_at_BadBook : PySem.W.findIn K (.ref C_BadBook) "at" = some none)
    (xL_Unlike : K.lookup C_Unlike = some (PySem.excClassObj nm_Unlike q_Unlike C_Unlike N_Unlike bs_Unlike bm_Unlike true sn_Unlike sb_Unlike ab_Unlike co_Unlike dd_Unlike m0_Unlike m1_Unlike m2_Unlike m3_Unlike m5_Unlike "ValueError.__new__"))
    (rv_Unlike : PySem.HandSPX.refsVE bm_Unlike = true)
    (al_Unlike : PySem.W.alongIn K "__init__" bm_Unlike = some (some (.builtin "ValueError.__init__")))
    (sa_Unlike : PySem.W.findIn K (.ref C_Unlike) "__setattr__" = some (some (.builtin "object.__setattr__")))
    (iC_Unlike : PySem.W.findIn K (.ref C_Unlike) "__init__" = some (some (.ref fi_Unlike)))
    (tC_Unlike : PySem.W.typeIn K (.ref fi_Unlike) = some (.type "function"))
    (kC_Unlike : PySem.W.keepIn K (.ref C_Unlike) = true)
    (eC_Unlike : PySem.W.subIn K (.ref C_Unlike) (.type "BaseException") = some true)
    (vC_Unlike : PySem.W.subIn K (.ref C_Unlike) (.type "ValueError") = some true)
    (sf_Unlike : PySem.W.mroIn K C_Unlike (.ref C_Unlike) = some true)
    (ty_Unlike : PySem.W.typeIn K (.ref C_Unlike) = some (.type "type"))
    (fn_Unlike : K.lookup fi_Unlike = some ⟨oc_Unlike, od_Unlike, .func (PySem.W.ksFn "__init__" "Unlike.__init__" (defArgs st_Unlike) (defBody st_Unlike) (defScope st_Unlike) .none kV_Unlike dc_Unlike pm_Unlike an_Unlike (.ref cda_Unlike) ct_Unlike cc_Unlike), sl_Unlike⟩)
    (ce_Unlike : K.lookup cc_Unlike = some ⟨cl_Unlike, cd1_Unlike, .cell (some (.ref C_Unlike)), sl1_Unlike⟩)
    (cod_Unlike : K.lookup cda_Unlike = some ⟨cl2_Unlike, cd2_Unlike, .fields vs_Unlike, sl2_Unlike⟩)
    (vf_Unlike : vs_Unlike[2]? = some (.str fl_Unlike tf_Unlike))
    (ff_Unlike : ((l.prog.main.file : PySem.Str) == fl_Unlike) = true)
    (cd_Unlike : PySem.W.codeIn K (.ref cda_Unlike) "Unlike.__init__" = true)
    (no_part_Unlike : PySem.W.findIn K (.ref C_Unlike) "part" = some none)
    (xL_BadTree : K.lookup C_BadTree = some (PySem.excClassObj nm_BadTree q_BadTree C_BadTree N_BadTree bs_BadTree bm_BadTree true sn_BadTree sb_BadTree ab_BadTree co_BadTree dd_BadTree m0_BadTree m1_BadTree m2_BadTree m3_BadTree m5_BadTree "ValueError.__new__"))
    (rv_BadTree : PySem.HandSPX.refsVE bm_BadTree = true)
    (al_BadTree : PySem.W.alongIn K "__init__" bm_BadTree = some (some (.builtin "ValueError.__init__")))
    (sa_BadTree : PySem.W.findIn K (.ref C_BadTree) "__setattr__" = some (some (.builtin "object.__setattr__")))
    (iC_BadTree : PySem.W.findIn K (.ref C_BadTree) "__init__" = some (some (.ref fi_BadTree)))
    (tC_BadTree : PySem.W.typeIn K (.ref fi_BadTree) = some (.type "function"))
    (kC_BadTree : PySem.W.keepIn K (.ref C_BadTree) = true)
    (eC_BadTree : PySem.W.subIn K (.ref C_BadTree) (.type "BaseException") = some true)
    (vC_BadTree : PySem.W.subIn K (.ref C_BadTree) (.type "ValueError") = some true)
    (sf_BadTree : PySem.W.mroIn K C_BadTree (.ref C_BadTree) = some true)
    (ty_BadTree : PySem.W.typeIn K (.ref C_BadTree) = some (.type "type"))
    (fn_BadTree : K.lookup fi_BadTree = some ⟨oc_BadTree, od_BadTree, .func (PySem.W.ksFn "__init__" "BadTree.__init__" (defArgs st_BadTree) (defBody st_BadTree) (defScope st_BadTree) .none kV_BadTree dc_BadTree pm_BadTree an_BadTree (.ref cda_BadTree) ct_BadTree cc_BadTree), sl_BadTree⟩)
    (ce_BadTree : K.lookup cc_BadTree = some ⟨cl_BadTree, cd1_BadTree, .cell (some (.ref C_BadTree)), sl1_BadTree⟩)
    (cod_BadTree : K.lookup cda_BadTree = some ⟨cl2_BadTree, cd2_BadTree, .fields vs_BadTree, sl2_BadTree⟩)
    (vf_BadTree : vs_BadTree[2]? = some (.str fl_BadTree tf_BadTree))
    (ff_BadTree : ((l.prog.main.file : PySem.Str) == fl_BadTree) = true)
    (cd_BadTree : PySem.W.codeIn K (.ref cda_BadTree) "BadTree.__init__" = true)
    (no_part_BadTree : PySem.W.findIn K (.ref C_BadTree) "part" = some none)
    (xL_BadGroup : K.lookup C_BadGroup = some (PySem.excClassObj nm_BadGroup q_BadGroup C_BadGroup N_BadGroup bs_BadGroup bm_BadGroup true sn_BadGroup sb_BadGroup ab_BadGroup co_BadGroup dd_BadGroup m0_BadGroup m1_BadGroup m2_BadGroup m3_BadGroup m5_BadGroup "ValueError.__new__"))
    (rv_BadGroup : PySem.HandSPX.refsVE bm_BadGroup = true)
    (al_BadGroup : PySem.W.alongIn K "__init__" bm_BadGroup = some (some (.builtin "ValueError.__init__")))
    (sa_BadGroup : PySem.W.findIn K (.ref C_BadGroup) "__setattr__" = some (some (.builtin "object.__setattr__")))
    (iC_BadGroup : PySem.W.findIn K (.ref C_BadGroup) "__init__" = some (some (.ref fi_BadGroup)))
    (tC_BadGroup : PySem.W.typeIn K (.ref fi_BadGroup) = some (.type "function"))
    (kC_BadGroup : PySem.W.keepIn K (.ref C_BadGroup) = true)
    (eC_BadGroup : PySem.W.subIn K (.ref C_BadGroup) (.type "BaseException") = some true)
    (vC_BadGroup : PySem.W.subIn K (.ref C_BadGroup) (.type "ValueError") = some true)
    (sf_BadGroup : PySem.W.mroIn K C_BadGroup (.ref C_BadGroup) = some true)
    (ty_BadGroup : PySem.W.typeIn K (.ref C_BadGroup) = some (.type "type"))
    (fn_BadGroup : K.lookup fi_BadGroup = some ⟨oc_BadGroup, od_BadGroup, .func (PySem.W.ksFn "__init__" "BadGroup.__init__" (defArgs st_BadGroup) (defBody st_BadGroup) (defScope st_BadGroup) .none kV_BadGroup dc_BadGroup pm_BadGroup an_BadGroup (.ref cda_BadGroup) ct_BadGroup cc_BadGroup), sl_BadGroup⟩)
    (ce_BadGroup : K.lookup cc_BadGroup = some ⟨cl_BadGroup, cd1_BadGroup, .cell (some (.ref C_BadGroup)), sl1_BadGroup⟩)
    (cod_BadGroup : K.lookup cda_BadGroup = some ⟨cl2_BadGroup, cd2_BadGroup, .fields vs_BadGroup, sl2_BadGroup⟩)
    (vf_BadGroup : vs_BadGroup[2]? = some (.str fl_BadGroup tf_BadGroup))
    (ff_BadGroup : ((l.prog.main.file : PySem.Str) == fl_BadGroup) = true)
    (cd_BadGroup : PySem.W.codeIn K (.ref cda_BadGroup) "BadGroup.__init__" = true)
    (no_part_BadGroup : PySem.W.findIn K (.ref C_BadGroup) "part" = some none)
    (xL_BadOrder : K.lookup C_BadOrder = some (PySem.excClassObj nm_BadOrder q_BadOrder C_BadOrder N_BadOrder bs_BadOrder bm_BadOrder true sn_BadOrder sb_BadOrder ab_BadOrder co_BadOrder dd_BadOrder m0_BadOrder m1_BadOrder m2_BadOrder m3_BadOrder m5_BadOrder "ValueError.__new__"))
    (rv_BadOrder : PySem.HandSPX.refsVE bm_BadOrder = true)
    (al_BadOrder : PySem.W.alongIn K "__init__" bm_BadOrder = some (some (.builtin "ValueError.__init__")))
    (sa_BadOrder : PySem.W.findIn K (.ref C_BadOrder) "__setattr__" = some (some (.builtin "object.__setattr__")))
    (iC_BadOrder : PySem.W.findIn K (.ref C_BadOrder) "__init__" = some (some (.ref fi_BadOrder)))
    (tC_BadOrder : PySem.W.typeIn K (.ref fi_BadOrder) = some (.type "function"))
    (kC_BadOrder : PySem.W.keepIn K (.ref C_BadOrder) = true)
    (eC_BadOrder : PySem.W.subIn K (.ref C_BadOrder) (.type "BaseException") = some true)
    (vC_BadOrder : PySem.W.subIn K (.ref C_BadOrder) (.type "ValueError") = some true)
    (sf_BadOrder : PySem.W.mroIn K C_BadOrder (.ref C_BadOrder) = some true)
    (ty_BadOrder : PySem.W.typeIn K (.ref C_BadOrder) = some (.type "type"))
    (fn_BadOrder : K.lookup fi_BadOrder = some ⟨oc_BadOrder, od_BadOrder, .func (PySem.W.ksFn "__init__" "BadOrder.__init__" (defArgs st_BadOrder) (defBody st_BadOrder) (defScope st_BadOrder) .none kV_BadOrder dc_BadOrder pm_BadOrder an_BadOrder (.ref cda_BadOrder) ct_BadOrder cc_BadOrder), sl_BadOrder⟩)
    (ce_BadOrder : K.lookup cc_BadOrder = some ⟨cl_BadOrder, cd1_BadOrder, .cell (some (.ref C_BadOrder)), sl1_BadOrder⟩)
    (cod_BadOrder : K.lookup cda_BadOrder = some ⟨cl2_BadOrder, cd2_BadOrder, .fields vs_BadOrder, sl2_BadOrder⟩)
    (vf_BadOrder : vs_BadOrder[2]? = some (.str fl_BadOrder tf_BadOrder))
    (ff_BadOrder : ((l.prog.main.file : PySem.Str) == fl_BadOrder) = true)
    (cd_BadOrder : PySem.W.codeIn K (.ref cda_BadOrder) "BadOrder.__init__" = true)
    (no_part_BadOrder : PySem.W.findIn K (.ref C_BadOrder) "part" = some none)
    (xL_BadLimit : K.lookup C_BadLimit = some (PySem.excClassObj nm_BadLimit q_BadLimit C_BadLimit N_BadLimit bs_BadLimit bm_BadLimit true sn_BadLimit sb_BadLimit ab_BadLimit co_BadLimit dd_BadLimit m0_BadLimit m1_BadLimit m2_BadLimit m3_BadLimit m5_BadLimit "ValueError.__new__"))
    (rv_BadLimit : PySem.HandSPX.refsVE bm_BadLimit = true)
    (al_BadLimit : PySem.W.alongIn K "__init__" bm_BadLimit = some (some (.builtin "ValueError.__init__")))
    (sa_BadLimit : PySem.W.findIn K (.ref C_BadLimit) "__setattr__" = some (some (.builtin "object.__setattr__")))
    (iC_BadLimit : PySem.W.findIn K (.ref C_BadLimit) "__init__" = some (some (.ref fi_BadLimit)))
    (tC_BadLimit : PySem.W.typeIn K (.ref fi_BadLimit) = some (.type "function"))
    (kC_BadLimit : PySem.W.keepIn K (.ref C_BadLimit) = true)
    (eC_BadLimit : PySem.W.subIn K (.ref C_BadLimit) (.type "BaseException") = some true)
    (vC_BadLimit : PySem.W.subIn K (.ref C_BadLimit) (.type "ValueError") = some true)
    (sf_BadLimit : PySem.W.mroIn K C_BadLimit (.ref C_BadLimit) = some true)
    (ty_BadLimit : PySem.W.typeIn K (.ref C_BadLimit) = some (.type "type"))
    (fn_BadLimit : K.lookup fi_BadLimit = some ⟨oc_BadLimit, od_BadLimit, .func (PySem.W.ksFn "__init__" "BadLimit.__init__" (defArgs st_BadLimit) (defBody st_BadLimit) (defScope st_BadLimit) .none kV_BadLimit dc_BadLimit pm_BadLimit an_BadLimit (.ref cda_BadLimit) ct_BadLimit cc_BadLimit), sl_BadLimit⟩)
    (ce_BadLimit : K.lookup cc_BadLimit = some ⟨cl_BadLimit, cd1_BadLimit, .cell (some (.ref C_BadLimit)), sl1_BadLimit⟩)
    (cod_BadLimit : K.lookup cda_BadLimit = some ⟨cl2_BadLimit, cd2_BadLimit, .fields vs_BadLimit, sl2_BadLimit⟩)
    (vf_BadLimit : vs_BadLimit[2]? = some (.str fl_BadLimit tf_BadLimit))
    (ff_BadLimit : ((l.prog.main.file : PySem.Str) == fl_BadLimit) = true)
    (cd_BadLimit : PySem.W.codeIn K (.ref cda_BadLimit) "BadLimit.__init__" = true)
    (no_value_BadLimit : PySem.W.findIn K (.ref C_BadLimit) "value" = some none)
    (xL_BadCount : K.lookup C_BadCount = some (PySem.excClassObj nm_BadCount q_BadCount C_BadCount N_BadCount bs_BadCount bm_BadCount true sn_BadCount sb_BadCount ab_BadCount co_BadCount dd_BadCount m0_BadCount m1_BadCount m2_BadCount m3_BadCount m5_BadCount "ValueError.__new__"))
    (rv_BadCount : PySem.HandSPX.refsVE bm_BadCount = true)
    (al_BadCount : PySem.W.alongIn K "__init__" bm_BadCount = some (some (.builtin "ValueError.__init__")))
    (sa_BadCount : PySem.W.findIn K (.ref C_BadCount) "__setattr__" = some (some (.builtin "object.__setattr__")))
    (iC_BadCount : PySem.W.findIn K (.ref C_BadCount) "__init__" = some (some (.ref fi_BadCount)))
    (tC_BadCount : PySem.W.typeIn K (.ref fi_BadCount) = some (.type "function"))
    (kC_BadCount : PySem.W.keepIn K (.ref C_BadCount) = true)
    (eC_BadCount : PySem.W.subIn K (.ref C_BadCount) (.type "BaseException") = some true)
    (vC_BadCount : PySem.W.subIn K (.ref C_BadCount) (.type "ValueError") = some true)
    (sf_BadCount : PySem.W.mroIn K C_BadCount (.ref C_BadCount) = some true)
    (ty_BadCount : PySem.W.typeIn K (.ref C_BadCount) = some (.type "type"))
    (fn_BadCount : K.lookup fi_BadCount = some ⟨oc_BadCount, od_BadCount, .func (PySem.W.ksFn "__init__" "BadCount.__init__" (defArgs st_BadCount) (defBody st_BadCount) (defScope st_BadCount) .none kV_BadCount dc_BadCount pm_BadCount an_BadCount (.ref cda_BadCount) ct_BadCount cc_BadCount), sl_BadCount⟩)
    (ce_BadCount : K.lookup cc_BadCount = some ⟨cl_BadCount, cd1_BadCount, .cell (some (.ref C_BadCount)), sl1_BadCount⟩)
    (cod_BadCount : K.lookup cda_BadCount = some ⟨cl2_BadCount, cd2_BadCount, .fields vs_BadCount, sl2_BadCount⟩)
    (vf_BadCount : vs_BadCount[2]? = some (.str fl_BadCount tf_BadCount))
    (ff_BadCount : ((l.prog.main.file : PySem.Str) == fl_BadCount) = true)
    (cd_BadCount : PySem.W.codeIn K (.ref cda_BadCount) "BadCount.__init__" = true)
    (no_value_BadCount : PySem.W.findIn K (.ref C_BadCount) "value" = some none)
    (xL_BadTruth : K.lookup C_BadTruth = some (PySem.excClassObj nm_BadTruth q_BadTruth C_BadTruth N_BadTruth bs_BadTruth bm_BadTruth true sn_BadTruth sb_BadTruth ab_BadTruth co_BadTruth dd_BadTruth m0_BadTruth m1_BadTruth m2_BadTruth m3_BadTruth m5_BadTruth "ValueError.__new__"))
    (rv_BadTruth : PySem.HandSPX.refsVE bm_BadTruth = true)
    (al_BadTruth : PySem.W.alongIn K "__init__" bm_BadTruth = some (some (.builtin "ValueError.__init__")))
    (sa_BadTruth : PySem.W.findIn K (.ref C_BadTruth) "__setattr__" = some (some (.builtin "object.__setattr__")))
    (iC_BadTruth : PySem.W.findIn K (.ref C_BadTruth) "__init__" = some (some (.ref fi_BadTruth)))
    (tC_BadTruth : PySem.W.typeIn K (.ref fi_BadTruth) = some (.type "function"))
    (kC_BadTruth : PySem.W.keepIn K (.ref C_BadTruth) = true)
    (eC_BadTruth : PySem.W.subIn K (.ref C_BadTruth) (.type "BaseException") = some true)
    (vC_BadTruth : PySem.W.subIn K (.ref C_BadTruth) (.type "ValueError") = some true)
    (sf_BadTruth : PySem.W.mroIn K C_BadTruth (.ref C_BadTruth) = some true)
    (ty_BadTruth : PySem.W.typeIn K (.ref C_BadTruth) = some (.type "type"))
    (fn_BadTruth : K.lookup fi_BadTruth = some ⟨oc_BadTruth, od_BadTruth, .func (PySem.W.ksFn "__init__" "BadTruth.__init__" (defArgs st_BadTruth) (defBody st_BadTruth) (defScope st_BadTruth) .none kV_BadTruth dc_BadTruth pm_BadTruth an_BadTruth (.ref cda_BadTruth) ct_BadTruth cc_BadTruth), sl_BadTruth⟩)
    (ce_BadTruth : K.lookup cc_BadTruth = some ⟨cl_BadTruth, cd1_BadTruth, .cell (some (.ref C_BadTruth)), sl1_BadTruth⟩)
    (cod_BadTruth : K.lookup cda_BadTruth = some ⟨cl2_BadTruth, cd2_BadTruth, .fields vs_BadTruth, sl2_BadTruth⟩)
    (vf_BadTruth : vs_BadTruth[2]? = some (.str fl_BadTruth tf_BadTruth))
    (ff_BadTruth : ((l.prog.main.file : PySem.Str) == fl_BadTruth) = true)
    (cd_BadTruth : PySem.W.codeIn K (.ref cda_BadTruth) "BadTruth.__init__" = true)
    (no_value_BadTruth : PySem.W.findIn K (.ref C_BadTruth) "value" = some none)
    (xL_BadPlace : K.lookup C_BadPlace = some (PySem.excClassObj nm_BadPlace q_BadPlace C_BadPlace N_BadPlace bs_BadPlace bm_BadPlace true sn_BadPlace sb_BadPlace ab_BadPlace co_BadPlace dd_BadPlace m0_BadPlace m1_BadPlace m2_BadPlace m3_BadPlace m5_BadPlace "ValueError.__new__"))
    (rv_BadPlace : PySem.HandSPX.refsVE bm_BadPlace = true)
    (al_BadPlace : PySem.W.alongIn K "__init__" bm_BadPlace = some (some (.builtin "ValueError.__init__")))
    (sa_BadPlace : PySem.W.findIn K (.ref C_BadPlace) "__setattr__" = some (some (.builtin "object.__setattr__")))
    (iC_BadPlace : PySem.W.findIn K (.ref C_BadPlace) "__init__" = some (some (.ref fi_BadPlace)))
    (tC_BadPlace : PySem.W.typeIn K (.ref fi_BadPlace) = some (.type "function"))
    (kC_BadPlace : PySem.W.keepIn K (.ref C_BadPlace) = true)
    (eC_BadPlace : PySem.W.subIn K (.ref C_BadPlace) (.type "BaseException") = some true)
    (vC_BadPlace : PySem.W.subIn K (.ref C_BadPlace) (.type "ValueError") = some true)
    (sf_BadPlace : PySem.W.mroIn K C_BadPlace (.ref C_BadPlace) = some true)
    (ty_BadPlace : PySem.W.typeIn K (.ref C_BadPlace) = some (.type "type"))
    (fn_BadPlace : K.lookup fi_BadPlace = some ⟨oc_BadPlace, od_BadPlace, .func (PySem.W.ksFn "__init__" "BadPlace.__init__" (defArgs st_BadPlace) (defBody st_BadPlace) (defScope st_BadPlace) .none kV_BadPlace dc_BadPlace pm_BadPlace an_BadPlace (.ref cda_BadPlace) ct_BadPlace cc_BadPlace), sl_BadPlace⟩)
    (ce_BadPlace : K.lookup cc_BadPlace = some ⟨cl_BadPlace, cd1_BadPlace, .cell (some (.ref C_BadPlace)), sl1_BadPlace⟩)
    (cod_BadPlace : K.lookup cda_BadPlace = some ⟨cl2_BadPlace, cd2_BadPlace, .fields vs_BadPlace, sl2_BadPlace⟩)
    (vf_BadPlace : vs_BadPlace[2]? = some (.str fl_BadPlace tf_BadPlace))
    (ff_BadPlace : ((l.prog.main.file : PySem.Str) == fl_BadPlace) = true)
    (cd_BadPlace : PySem.W.codeIn K (.ref cda_BadPlace) "BadPlace.__init__" = true)
    (no_value_BadPlace : PySem.W.findIn K (.ref C_BadPlace) "value" = some none)
    (xL_BadWord : K.lookup C_BadWord = some (PySem.excClassObj nm_BadWord q_BadWord C_BadWord N_BadWord bs_BadWord bm_BadWord true sn_BadWord sb_BadWord ab_BadWord co_BadWord dd_BadWord m0_BadWord m1_BadWord m2_BadWord m3_BadWord m5_BadWord "ValueError.__new__"))
    (rv_BadWord : PySem.HandSPX.refsVE bm_BadWord = true)
    (al_BadWord : PySem.W.alongIn K "__init__" bm_BadWord = some (some (.builtin "ValueError.__init__")))
    (sa_BadWord : PySem.W.findIn K (.ref C_BadWord) "__setattr__" = some (some (.builtin "object.__setattr__")))
    (iC_BadWord : PySem.W.findIn K (.ref C_BadWord) "__init__" = some (some (.ref fi_BadWord)))
    (tC_BadWord : PySem.W.typeIn K (.ref fi_BadWord) = some (.type "function"))
    (kC_BadWord : PySem.W.keepIn K (.ref C_BadWord) = true)
    (eC_BadWord : PySem.W.subIn K (.ref C_BadWord) (.type "BaseException") = some true)
    (vC_BadWord : PySem.W.subIn K (.ref C_BadWord) (.type "ValueError") = some true)
    (sf_BadWord : PySem.W.mroIn K C_BadWord (.ref C_BadWord) = some true)
    (ty_BadWord : PySem.W.typeIn K (.ref C_BadWord) = some (.type "type"))
    (fn_BadWord : K.lookup fi_BadWord = some ⟨oc_BadWord, od_BadWord, .func (PySem.W.ksFn "__init__" "BadWord.__init__" (defArgs st_BadWord) (defBody st_BadWord) (defScope st_BadWord) .none kV_BadWord dc_BadWord pm_BadWord an_BadWord (.ref cda_BadWord) ct_BadWord cc_BadWord), sl_BadWord⟩)
    (ce_BadWord : K.lookup cc_BadWord = some ⟨cl_BadWord, cd1_BadWord, .cell (some (.ref C_BadWord)), sl1_BadWord⟩)
    (cod_BadWord : K.lookup cda_BadWord = some ⟨cl2_BadWord, cd2_BadWord, .fields vs_BadWord, sl2_BadWord⟩)
    (vf_BadWord : vs_BadWord[2]? = some (.str fl_BadWord tf_BadWord))
    (ff_BadWord : ((l.prog.main.file : PySem.Str) == fl_BadWord) = true)
    (cd_BadWord : PySem.W.codeIn K (.ref cda_BadWord) "BadWord.__init__" = true)
    (no_value_BadWord : PySem.W.findIn K (.ref C_BadWord) "value" = some none)
    (xL_Clash : K.lookup C_Clash = some (PySem.excClassObj nm_Clash q_Clash C_Clash N_Clash bs_Clash bm_Clash true sn_Clash sb_Clash ab_Clash co_Clash dd_Clash m0_Clash m1_Clash m2_Clash m3_Clash m5_Clash "ValueError.__new__"))
    (rv_Clash : PySem.HandSPX.refsVE bm_Clash = true)
    (al_Clash : PySem.W.alongIn K "__init__" bm_Clash = some (some (.builtin "ValueError.__init__")))
    (sa_Clash : PySem.W.findIn K (.ref C_Clash) "__setattr__" = some (some (.builtin "object.__setattr__")))
    (iC_Clash : PySem.W.findIn K (.ref C_Clash) "__init__" = some (some (.ref fi_Clash)))
    (tC_Clash : PySem.W.typeIn K (.ref fi_Clash) = some (.type "function"))
    (kC_Clash : PySem.W.keepIn K (.ref C_Clash) = true)
    (eC_Clash : PySem.W.subIn K (.ref C_Clash) (.type "BaseException") = some true)
    (vC_Clash : PySem.W.subIn K (.ref C_Clash) (.type "ValueError") = some true)
    (sf_Clash : PySem.W.mroIn K C_Clash (.ref C_Clash) = some true)
    (ty_Clash : PySem.W.typeIn K (.ref C_Clash) = some (.type "type"))
    (fn_Clash : K.lookup fi_Clash = some ⟨oc_Clash, od_Clash, .func (PySem.W.ksFn "__init__" "Clash.__init__" (defArgs st_Clash) (defBody st_Clash) (defScope st_Clash) .none kV_Clash dc_Clash pm_Clash an_Clash (.ref cda_Clash) ct_Clash cc_Clash), sl_Clash⟩)
    (ce_Clash : K.lookup cc_Clash = some ⟨cl_Clash, cd1_Clash, .cell (some (.ref C_Clash)), sl1_Clash⟩)
    (cod_Clash : K.lookup cda_Clash = some ⟨cl2_Clash, cd2_Clash, .fields vs_Clash, sl2_Clash⟩)
    (vf_Clash : vs_Clash[2]? = some (.str fl_Clash tf_Clash))
    (ff_Clash : ((l.prog.main.file : PySem.Str) == fl_Clash) = true)
    (cd_Clash : PySem.W.codeIn K (.ref cda_Clash) "Clash.__init__" = true)
    (no_run_Clash : PySem.W.findIn K (.ref C_Clash) "run" = some none)
    (no_chain_Clash : PySem.W.findIn K (.ref C_Clash) "chain" = some none)
    (xL_Breaks : K.lookup C_Breaks = some (PySem.excClassObj nm_Breaks q_Breaks C_Breaks N_Breaks bs_Breaks bm_Breaks true sn_Breaks sb_Breaks ab_Breaks co_Breaks dd_Breaks m0_Breaks m1_Breaks m2_Breaks m3_Breaks m5_Breaks "ValueError.__new__"))
    (rv_Breaks : PySem.HandSPX.refsVE bm_Breaks = true)
    (al_Breaks : PySem.W.alongIn K "__init__" bm_Breaks = some (some (.builtin "ValueError.__init__")))
    (sa_Breaks : PySem.W.findIn K (.ref C_Breaks) "__setattr__" = some (some (.builtin "object.__setattr__")))
    (iC_Breaks : PySem.W.findIn K (.ref C_Breaks) "__init__" = some (some (.ref fi_Breaks)))
    (tC_Breaks : PySem.W.typeIn K (.ref fi_Breaks) = some (.type "function"))
    (kC_Breaks : PySem.W.keepIn K (.ref C_Breaks) = true)
    (eC_Breaks : PySem.W.subIn K (.ref C_Breaks) (.type "BaseException") = some true)
    (vC_Breaks : PySem.W.subIn K (.ref C_Breaks) (.type "ValueError") = some true)
    (sf_Breaks : PySem.W.mroIn K C_Breaks (.ref C_Breaks) = some true)
    (ty_Breaks : PySem.W.typeIn K (.ref C_Breaks) = some (.type "type"))
    (fn_Breaks : K.lookup fi_Breaks = some ⟨oc_Breaks, od_Breaks, .func (PySem.W.ksFn "__init__" "Breaks.__init__" (defArgs st_Breaks) (defBody st_Breaks) (defScope st_Breaks) .none kV_Breaks dc_Breaks pm_Breaks an_Breaks (.ref cda_Breaks) ct_Breaks cc_Breaks), sl_Breaks⟩)
    (ce_Breaks : K.lookup cc_Breaks = some ⟨cl_Breaks, cd1_Breaks, .cell (some (.ref C_Breaks)), sl1_Breaks⟩)
    (cod_Breaks : K.lookup cda_Breaks = some ⟨cl2_Breaks, cd2_Breaks, .fields vs_Breaks, sl2_Breaks⟩)
    (vf_Breaks : vs_Breaks[2]? = some (.str fl_Breaks tf_Breaks))
    (ff_Breaks : ((l.prog.main.file : PySem.Str) == fl_Breaks) = true)
    (cd_Breaks : PySem.W.codeIn K (.ref cda_Breaks) "Breaks.__init__" = true)
    (no_group_Breaks : PySem.W.findIn K (.ref C_Breaks) "group" = some none)
    (no_pull_Breaks : PySem.W.findIn K (.ref C_Breaks) "pull" = some none)
    (xL_NotPhrase : K.lookup C_NotPhrase = some (PySem.excClassObj nm_NotPhrase q_NotPhrase C_NotPhrase N_NotPhrase bs_NotPhrase bm_NotPhrase true sn_NotPhrase sb_NotPhrase ab_NotPhrase co_NotPhrase dd_NotPhrase m0_NotPhrase m1_NotPhrase m2_NotPhrase m3_NotPhrase m5_NotPhrase "ValueError.__new__"))
    (rv_NotPhrase : PySem.HandSPX.refsVE bm_NotPhrase = true)
    (al_NotPhrase : PySem.W.alongIn K "__init__" bm_NotPhrase = some (some (.builtin "ValueError.__init__")))
    (sa_NotPhrase : PySem.W.findIn K (.ref C_NotPhrase) "__setattr__" = some (some (.builtin "object.__setattr__")))
    (iC_NotPhrase : PySem.W.findIn K (.ref C_NotPhrase) "__init__" = some (some (.ref fi_NotPhrase)))
    (tC_NotPhrase : PySem.W.typeIn K (.ref fi_NotPhrase) = some (.type "function"))
    (kC_NotPhrase : PySem.W.keepIn K (.ref C_NotPhrase) = true)
    (eC_NotPhrase : PySem.W.subIn K (.ref C_NotPhrase) (.type "BaseException") = some true)
    (vC_NotPhrase : PySem.W.subIn K (.ref C_NotPhrase) (.type "ValueError") = some true)
    (sf_NotPhrase : PySem.W.mroIn K C_NotPhrase (.ref C_NotPhrase) = some true)
    (ty_NotPhrase : PySem.W.typeIn K (.ref C_NotPhrase) = some (.type "type"))
    (fn_NotPhrase : K.lookup fi_NotPhrase = some ⟨oc_NotPhrase, od_NotPhrase, .func (PySem.W.ksFn "__init__" "NotPhrase.__init__" (defArgs st_NotPhrase) (defBody st_NotPhrase) (defScope st_NotPhrase) .none kV_NotPhrase dc_NotPhrase pm_NotPhrase an_NotPhrase (.ref cda_NotPhrase) ct_NotPhrase cc_NotPhrase), sl_NotPhrase⟩)
    (ce_NotPhrase : K.lookup cc_NotPhrase = some ⟨cl_NotPhrase, cd1_NotPhrase, .cell (some (.ref C_NotPhrase)), sl1_NotPhrase⟩)
    (cod_NotPhrase : K.lookup cda_NotPhrase = some ⟨cl2_NotPhrase, cd2_NotPhrase, .fields vs_NotPhrase, sl2_NotPhrase⟩)
    (vf_NotPhrase : vs_NotPhrase[2]? = some (.str fl_NotPhrase tf_NotPhrase))
    (ff_NotPhrase : ((l.prog.main.file : PySem.Str) == fl_NotPhrase) = true)
    (cd_NotPhrase : PySem.W.codeIn K (.ref cda_NotPhrase) "NotPhrase.__init__" = true)
    (no_group_NotPhrase : PySem.W.findIn K (.ref C_NotPhrase) "group" = some none)
    (no_pull_NotPhrase : PySem.W.findIn K (.ref C_NotPhrase) "pull" = some none)
    (xL_BadText : K.lookup C_BadText = some (PySem.excClassObj nm_BadText q_BadText C_BadText N_BadText bs_BadText bm_BadText true sn_BadText sb_BadText ab_BadText co_BadText dd_BadText m0_BadText m1_BadText m2_BadText m3_BadText m5_BadText "ValueError.__new__"))
    (rv_BadText : PySem.HandSPX.refsVE bm_BadText = true)
    (al_BadText : PySem.W.alongIn K "__init__" bm_BadText = some (some (.builtin "ValueError.__init__")))
    (sa_BadText : PySem.W.findIn K (.ref C_BadText) "__setattr__" = some (some (.builtin "object.__setattr__")))
    (iC_BadText : PySem.W.findIn K (.ref C_BadText) "__init__" = some (some (.ref fi_BadText)))
    (tC_BadText : PySem.W.typeIn K (.ref fi_BadText) = some (.type "function"))
    (kC_BadText : PySem.W.keepIn K (.ref C_BadText) = true)
    (eC_BadText : PySem.W.subIn K (.ref C_BadText) (.type "BaseException") = some true)
    (vC_BadText : PySem.W.subIn K (.ref C_BadText) (.type "ValueError") = some true)
    (sf_BadText : PySem.W.mroIn K C_BadText (.ref C_BadText) = some true)
    (ty_BadText : PySem.W.typeIn K (.ref C_BadText) = some (.type "type"))
    (fn_BadText : K.lookup fi_BadText = some ⟨oc_BadText, od_BadText, .func (PySem.W.ksFn "__init__" "BadText.__init__" (defArgs st_BadText) (defBody st_BadText) (defScope st_BadText) .none kV_BadText dc_BadText pm_BadText an_BadText (.ref cda_BadText) ct_BadText cc_BadText), sl_BadText⟩)
    (ce_BadText : K.lookup cc_BadText = some ⟨cl_BadText, cd1_BadText, .cell (some (.ref C_BadText)), sl1_BadText⟩)
    (cod_BadText : K.lookup cda_BadText = some ⟨cl2_BadText, cd2_BadText, .fields vs_BadText, sl2_BadText⟩)
    (vf_BadText : vs_BadText[2]? = some (.str fl_BadText tf_BadText))
    (ff_BadText : ((l.prog.main.file : PySem.Str) == fl_BadText) = true)
    (cd_BadText : PySem.W.codeIn K (.ref cda_BadText) "BadText.__init__" = true)
    (no_line_BadText : PySem.W.findIn K (.ref C_BadText) "line" = some none)
    (no_word_BadText : PySem.W.findIn K (.ref C_BadText) "word" = some none)
    (hx_name : xfdB K ([("PhraseError", C_PhraseError), ("BadWord", C_BadWord), ("BadPlace", C_BadPlace), ("BadTruth", C_BadTruth), ("BadCount", C_BadCount), ("BadLimit", C_BadLimit), ("BadOrder", C_BadOrder), ("BadGroup", C_BadGroup), ("BadTree", C_BadTree), ("Unlike", C_Unlike), ("BadBook", C_BadBook), ("BadNode", C_BadNode), ("BadList", C_BadList), ("NoWord", C_NoWord), ("Taken", C_Taken), ("BadCommand", C_BadCommand), ("BadText", C_BadText), ("NoName", C_NoName), ("NotPhrase", C_NotPhrase), ("Breaks", C_Breaks), ("Clash", C_Clash), ("TooMany", C_TooMany), ("NoChange", C_NoChange), ("LastOrder", C_LastOrder)] : List (PySem.Str × Addr)) "name" = true)
    (hx_word : xfdB K ([("PhraseError", C_PhraseError), ("BadWord", C_BadWord), ("BadPlace", C_BadPlace), ("BadTruth", C_BadTruth), ("BadCount", C_BadCount), ("BadLimit", C_BadLimit), ("BadOrder", C_BadOrder), ("BadGroup", C_BadGroup), ("BadTree", C_BadTree), ("Unlike", C_Unlike), ("BadBook", C_BadBook), ("BadNode", C_BadNode), ("BadList", C_BadList), ("NoWord", C_NoWord), ("Taken", C_Taken), ("BadCommand", C_BadCommand), ("BadText", C_BadText), ("NoName", C_NoName), ("NotPhrase", C_NotPhrase), ("Breaks", C_Breaks), ("Clash", C_Clash), ("TooMany", C_TooMany), ("NoChange", C_NoChange), ("LastOrder", C_LastOrder)] : List (PySem.Str × Addr)) "word" = true)
    (hx_at : xfdB K ([("PhraseError", C_PhraseError), ("BadWord", C_BadWord), ("BadPlace", C_BadPlace), ("BadTruth", C_BadTruth), ("BadCount", C_BadCount), ("BadLimit", C_BadLimit), ("BadOrder", C_BadOrder), ("BadGroup", C_BadGroup), ("BadTree", C_BadTree), ("Unlike", C_Unlike), ("BadBook", C_BadBook), ("BadNode", C_BadNode), ("BadList", C_BadList), ("NoWord", C_NoWord), ("Taken", C_Taken), ("BadCommand", C_BadCommand), ("BadText", C_BadText), ("NoName", C_NoName), ("NotPhrase", C_NotPhrase), ("Breaks", C_Breaks), ("Clash", C_Clash), ("TooMany", C_TooMany), ("NoChange", C_NoChange), ("LastOrder", C_LastOrder)] : List (PySem.Str × Addr)) "at" = true)
    (hx_part : xfdB K ([("PhraseError", C_PhraseError), ("BadWord", C_BadWord), ("BadPlace", C_BadPlace), ("BadTruth", C_BadTruth), ("BadCount", C_BadCount), ("BadLimit", C_BadLimit), ("BadOrder", C_BadOrder), ("BadGroup", C_BadGroup), ("BadTree", C_BadTree), ("Unlike", C_Unlike), ("BadBook", C_BadBook), ("BadNode", C_BadNode), ("BadList", C_BadList), ("NoWord", C_NoWord), ("Taken", C_Taken), ("BadCommand", C_BadCommand), ("BadText", C_BadText), ("NoName", C_NoName), ("NotPhrase", C_NotPhrase), ("Breaks", C_Breaks), ("Clash", C_Clash), ("TooMany", C_TooMany), ("NoChange", C_NoChange), ("LastOrder", C_LastOrder)] : List (PySem.Str × Addr)) "part" = true)
    (hx_value : xfdB K ([("PhraseError", C_PhraseError), ("BadWord", C_BadWord), ("BadPlace", C_BadPlace), ("BadTruth", C_BadTruth), ("BadCount", C_BadCount), ("BadLimit", C_BadLimit), ("BadOrder", C_BadOrder), ("BadGroup", C_BadGroup), ("BadTree", C_BadTree), ("Unlike", C_Unlike), ("BadBook", C_BadBook), ("BadNode", C_BadNode), ("BadList", C_BadList), ("NoWord", C_NoWord), ("Taken", C_Taken), ("BadCommand", C_BadCommand), ("BadText", C_BadText), ("NoName", C_NoName), ("NotPhrase", C_NotPhrase), ("Breaks", C_Breaks), ("Clash", C_Clash), ("TooMany", C_TooMany), ("NoChange", C_NoChange), ("LastOrder", C_LastOrder)] : List (PySem.Str × Addr)) "value" = true)
    (hx_most : xfdB K ([("PhraseError", C_PhraseError), ("BadWord", C_BadWord), ("BadPlace", C_BadPlace), ("BadTruth", C_BadTruth), ("BadCount", C_BadCount), ("BadLimit", C_BadLimit), ("BadOrder", C_BadOrder), ("BadGroup", C_BadGroup), ("BadTree", C_BadTree), ("Unlike", C_Unlike), ("BadBook", C_BadBook), ("BadNode", C_BadNode), ("BadList", C_BadList), ("NoWord", C_NoWord), ("Taken", C_Taken), ("BadCommand", C_BadCommand), ("BadText", C_BadText), ("NoName", C_NoName), ("NotPhrase", C_NotPhrase), ("Breaks", C_Breaks), ("Clash", C_Clash), ("TooMany", C_TooMany), ("NoChange", C_NoChange), ("LastOrder", C_LastOrder)] : List (PySem.Str × Addr)) "most" = true)
    (hx_what : xfdB K ([("PhraseError", C_PhraseError), ("BadWord", C_BadWord), ("BadPlace", C_BadPlace), ("BadTruth", C_BadTruth), ("BadCount", C_BadCount), ("BadLimit", C_BadLimit), ("BadOrder", C_BadOrder), ("BadGroup", C_BadGroup), ("BadTree", C_BadTree), ("Unlike", C_Unlike), ("BadBook", C_BadBook), ("BadNode", C_BadNode), ("BadList", C_BadList), ("NoWord", C_NoWord), ("Taken", C_Taken), ("BadCommand", C_BadCommand), ("BadText", C_BadText), ("NoName", C_NoName), ("NotPhrase", C_NotPhrase), ("Breaks", C_Breaks), ("Clash", C_Clash), ("TooMany", C_TooMany), ("NoChange", C_NoChange), ("LastOrder", C_LastOrder)] : List (PySem.Str × Addr)) "what" = true)
    (hx_chain : xfdB K ([("PhraseError", C_PhraseError), ("BadWord", C_BadWord), ("BadPlace", C_BadPlace), ("BadTruth", C_BadTruth), ("BadCount", C_BadCount), ("BadLimit", C_BadLimit), ("BadOrder", C_BadOrder), ("BadGroup", C_BadGroup), ("BadTree", C_BadTree), ("Unlike", C_Unlike), ("BadBook", C_BadBook), ("BadNode", C_BadNode), ("BadList", C_BadList), ("NoWord", C_NoWord), ("Taken", C_Taken), ("BadCommand", C_BadCommand), ("BadText", C_BadText), ("NoName", C_NoName), ("NotPhrase", C_NotPhrase), ("Breaks", C_Breaks), ("Clash", C_Clash), ("TooMany", C_TooMany), ("NoChange", C_NoChange), ("LastOrder", C_LastOrder)] : List (PySem.Str × Addr)) "chain" = true)
    (hx_run : xfdB K ([("PhraseError", C_PhraseError), ("BadWord", C_BadWord), ("BadPlace", C_BadPlace), ("BadTruth", C_BadTruth), ("BadCount", C_BadCount), ("BadLimit", C_BadLimit), ("BadOrder", C_BadOrder), ("BadGroup", C_BadGroup), ("BadTree", C_BadTree), ("Unlike", C_Unlike), ("BadBook", C_BadBook), ("BadNode", C_BadNode), ("BadList", C_BadList), ("NoWord", C_NoWord), ("Taken", C_Taken), ("BadCommand", C_BadCommand), ("BadText", C_BadText), ("NoName", C_NoName), ("NotPhrase", C_NotPhrase), ("Breaks", C_Breaks), ("Clash", C_Clash), ("TooMany", C_TooMany), ("NoChange", C_NoChange), ("LastOrder", C_LastOrder)] : List (PySem.Str × Addr)) "run" = true)
    (hx_pull : xfdB K ([("PhraseError", C_PhraseError), ("BadWord", C_BadWord), ("BadPlace", C_BadPlace), ("BadTruth", C_BadTruth), ("BadCount", C_BadCount), ("BadLimit", C_BadLimit), ("BadOrder", C_BadOrder), ("BadGroup", C_BadGroup), ("BadTree", C_BadTree), ("Unlike", C_Unlike), ("BadBook", C_BadBook), ("BadNode", C_BadNode), ("BadList", C_BadList), ("NoWord", C_NoWord), ("Taken", C_Taken), ("BadCommand", C_BadCommand), ("BadText", C_BadText), ("NoName", C_NoName), ("NotPhrase", C_NotPhrase), ("Breaks", C_Breaks), ("Clash", C_Clash), ("TooMany", C_TooMany), ("NoChange", C_NoChange), ("LastOrder", C_LastOrder)] : List (PySem.Str × Addr)) "pull" = true)
    (hx_group : xfdB K ([("PhraseError", C_PhraseError), ("BadWord", C_BadWord), ("BadPlace", C_BadPlace), ("BadTruth", C_BadTruth), ("BadCount", C_BadCount), ("BadLimit", C_BadLimit), ("BadOrder", C_BadOrder), ("BadGroup", C_BadGroup), ("BadTree", C_BadTree), ("Unlike", C_Unlike), ("BadBook", C_BadBook), ("BadNode", C_BadNode), ("BadList", C_BadList), ("NoWord", C_NoWord), ("Taken", C_Taken), ("BadCommand", C_BadCommand), ("BadText", C_BadText), ("NoName", C_NoName), ("NotPhrase", C_NotPhrase), ("Breaks", C_Breaks), ("Clash", C_Clash), ("TooMany", C_TooMany), ("NoChange", C_NoChange), ("LastOrder", C_LastOrder)] : List (PySem.Str × Addr)) "group" = true)
    (hx_line : xfdB K ([("PhraseError", C_PhraseError), ("BadWord", C_BadWord), ("BadPlace", C_BadPlace), ("BadTruth", C_BadTruth), ("BadCount", C_BadCount), ("BadLimit", C_BadLimit), ("BadOrder", C_BadOrder), ("BadGroup", C_BadGroup), ("BadTree", C_BadTree), ("Unlike", C_Unlike), ("BadBook", C_BadBook), ("BadNode", C_BadNode), ("BadList", C_BadList), ("NoWord", C_NoWord), ("Taken", C_Taken), ("BadCommand", C_BadCommand), ("BadText", C_BadText), ("NoName", C_NoName), ("NotPhrase", C_NotPhrase), ("Breaks", C_Breaks), ("Clash", C_Clash), ("TooMany", C_TooMany), ("NoChange", C_NoChange), ("LastOrder", C_LastOrder)] : List (PySem.Str × Addr)) "line" = true)
    (z_range : PySem.W.nsIn K mainGlobals "range" = some none)
    (z_repr : PySem.W.nsIn K mainGlobals "repr" = some none)
    (z_enumerate : PySem.W.nsIn K mainGlobals "enumerate" = some none)
    (z_ValueError : PySem.W.nsIn K mainGlobals "ValueError" = some none)
    (h_ve : veB K ([("PhraseError", C_PhraseError), ("BadWord", C_BadWord), ("BadPlace", C_BadPlace), ("BadTruth", C_BadTruth), ("BadCount", C_BadCount), ("BadLimit", C_BadLimit), ("BadOrder", C_BadOrder), ("BadGroup", C_BadGroup), ("BadTree", C_BadTree), ("Unlike", C_Unlike), ("BadBook", C_BadBook), ("BadNode", C_BadNode), ("BadList", C_BadList), ("NoWord", C_NoWord), ("Taken", C_Taken), ("BadCommand", C_BadCommand), ("BadText", C_BadText), ("NoName", C_NoName), ("NotPhrase", C_NotPhrase), ("Breaks", C_Breaks), ("Clash", C_Clash), ("TooMany", C_TooMany), ("NoChange", C_NoChange), ("LastOrder", C_LastOrder)] : List (PySem.Str × Addr)) = true)
    (z_super : PySem.W.nsIn K mainGlobals "super" = some none)
    (h_opq : PySem.W.nsIn K cStatics "thirdparty.any" = some none)
    (h_top : (l.prog.main.scope.names.lookup ("super" : PySem.Str)).isSome = false)
    (h_cl : ([] : List (PySem.Str × Addr)).all (fun p => clB K p.2) = true)
    (h_ex : ([("PhraseError", C_PhraseError), ("BadWord", C_BadWord), ("BadPlace", C_BadPlace), ("BadTruth", C_BadTruth), ("BadCount", C_BadCount), ("BadLimit", C_BadLimit), ("BadOrder", C_BadOrder), ("BadGroup", C_BadGroup), ("BadTree", C_BadTree), ("Unlike", C_Unlike), ("BadBook", C_BadBook), ("BadNode", C_BadNode), ("BadList", C_BadList), ("NoWord", C_NoWord), ("Taken", C_Taken), ("BadCommand", C_BadCommand), ("BadText", C_BadText), ("NoName", C_NoName), ("NotPhrase", C_NotPhrase), ("Breaks", C_Breaks), ("Clash", C_Clash), ("TooMany", C_TooMany), ("NoChange", C_NoChange), ("LastOrder", C_LastOrder)] : List (PySem.Str × Addr)).all (fun p => exB K p.2) = true)
    (h_one : oneB K (([] : List (PySem.Str × Addr)) ++ ([("PhraseError", C_PhraseError), ("BadWord", C_BadWord), ("BadPlace", C_BadPlace), ("BadTruth", C_BadTruth), ("BadCount", C_BadCount), ("BadLimit", C_BadLimit), ("BadOrder", C_BadOrder), ("BadGroup", C_BadGroup), ("BadTree", C_BadTree), ("Unlike", C_Unlike), ("BadBook", C_BadBook), ("BadNode", C_BadNode), ("BadList", C_BadList), ("NoWord", C_NoWord), ("Taken", C_Taken), ("BadCommand", C_BadCommand), ("BadText", C_BadText), ("NoName", C_NoName), ("NotPhrase", C_NotPhrase), ("Breaks", C_Breaks), ("Clash", C_Clash), ("TooMany", C_TooMany), ("NoChange", C_NoChange), ("LastOrder", C_LastOrder)] : List (PySem.Str × Addr))) Pg.supP = true)
    (h_ty : tyB K (([] : List (PySem.Str × Addr)) ++ ([("PhraseError", C_PhraseError), ("BadWord", C_BadWord), ("BadPlace", C_BadPlace), ("BadTruth", C_BadTruth), ("BadCount", C_BadCount), ("BadLimit", C_BadLimit), ("BadOrder", C_BadOrder), ("BadGroup", C_BadGroup), ("BadTree", C_BadTree), ("Unlike", C_Unlike), ("BadBook", C_BadBook), ("BadNode", C_BadNode), ("BadList", C_BadList), ("NoWord", C_NoWord), ("Taken", C_Taken), ("BadCommand", C_BadCommand), ("BadText", C_BadText), ("NoName", C_NoName), ("NotPhrase", C_NotPhrase), ("Breaks", C_Breaks), ("Clash", C_Clash), ("TooMany", C_TooMany), ("NoChange", C_NoChange), ("LastOrder", C_LastOrder)] : List (PySem.Str × Addr))) = true)
    (h_ct : ctB K (([] : List (PySem.Str × Addr)) ++ ([("PhraseError", C_PhraseError), ("BadWord", C_BadWord), ("BadPlace", C_BadPlace), ("BadTruth", C_BadTruth), ("BadCount", C_BadCount), ("BadLimit", C_BadLimit), ("BadOrder", C_BadOrder), ("BadGroup", C_BadGroup), ("BadTree", C_BadTree), ("Unlike", C_Unlike), ("BadBook", C_BadBook), ("BadNode", C_BadNode), ("BadList", C_BadList), ("NoWord", C_NoWord), ("Taken", C_Taken), ("BadCommand", C_BadCommand), ("BadText", C_BadText), ("NoName", C_NoName), ("NotPhrase", C_NotPhrase), ("Breaks", C_Breaks), ("Clash", C_Clash), ("TooMany", C_TooMany), ("NoChange", C_NoChange), ("LastOrder", C_LastOrder)] : List (PySem.Str × Addr))) = true)
    : OwnAt l w K 4 63 "_law_script" mg fa h := by
  have e := hfa.symm.trans (PySem.W.mg_of X G a_law)
  cases e
  have z := fun {x : PySem.Str} (h : PySem.W.nsIn K mainGlobals x = some none) => PySem.W.mg_none_of X G h
  have g := fun {x : PySem.Str} {v : Value} (h : PySem.W.nsIn K mainGlobals x = some (some v)) => PySem.W.mg_of X G h
  have gg := fun {x : PySem.Str} {v : Addr} (h : PySem.W.nsIn K mainGlobals x = some (some (.ref v))) => PySem.W.mg_of X G h
  have hm : ∀ p ∈ ([] : List (PySem.Str × Addr)) ++ ([("PhraseError", C_PhraseError), ("BadWord", C_BadWord), ("BadPlace", C_BadPlace), ("BadTruth", C_BadTruth), ("BadCount", C_BadCount), ("BadLimit", C_BadLimit), ("BadOrder", C_BadOrder), ("BadGroup", C_BadGroup), ("BadTree", C_BadTree), ("Unlike", C_Unlike), ("BadBook", C_BadBook), ("BadNode", C_BadNode), ("BadList", C_BadList), ("NoWord", C_NoWord), ("Taken", C_Taken), ("BadCommand", C_BadCommand), ("BadText", C_BadText), ("NoName", C_NoName), ("NotPhrase", C_NotPhrase), ("Breaks", C_Breaks), ("Clash", C_Clash), ("TooMany", C_TooMany), ("NoChange", C_NoChange), ("LastOrder", C_LastOrder)] : List (PySem.Str × Addr)), mg p.1 = some (.ref p.2) := (show ∀ p ∈ ([("PhraseError", C_PhraseError), ("BadWord", C_BadWord), ("BadPlace", C_BadPlace), ("BadTruth", C_BadTruth), ("BadCount", C_BadCount), ("BadLimit", C_BadLimit), ("BadOrder", C_BadOrder), ("BadGroup", C_BadGroup), ("BadTree", C_BadTree), ("Unlike", C_Unlike), ("BadBook", C_BadBook), ("BadNode", C_BadNode), ("BadList", C_BadList), ("NoWord", C_NoWord), ("Taken", C_Taken), ("BadCommand", C_BadCommand), ("BadText", C_BadText), ("NoName", C_NoName), ("NotPhrase", C_NotPhrase), ("Breaks", C_Breaks), ("Clash", C_Clash), ("TooMany", C_TooMany), ("NoChange", C_NoChange), ("LastOrder", C_LastOrder)] : List (PySem.Str × Addr)), mg p.1 = some (.ref p.2) from List.forall_mem_cons.mpr ⟨g aC_PhraseError, List.forall_mem_cons.mpr ⟨g aC_BadWord, List.forall_mem_cons.mpr ⟨g aC_BadPlace, List.forall_mem_cons.mpr ⟨g aC_BadTruth, List.forall_mem_cons.mpr ⟨g aC_BadCount, List.forall_mem_cons.mpr ⟨g aC_BadLimit, List.forall_mem_cons.mpr ⟨g aC_BadOrder, List.forall_mem_cons.mpr ⟨g aC_BadGroup, List.forall_mem_cons.mpr ⟨g aC_BadTree, List.forall_mem_cons.mpr ⟨g aC_Unlike, List.forall_mem_cons.mpr ⟨g aC_BadBook, List.forall_mem_cons.mpr ⟨g aC_BadNode, List.forall_mem_cons.mpr ⟨g aC_BadList, List.forall_mem_cons.mpr ⟨g aC_NoWord, List.forall_mem_cons.mpr ⟨g aC_Taken, List.forall_mem_cons.mpr ⟨g aC_BadCommand, List.forall_mem_cons.mpr ⟨g aC_BadText, List.forall_mem_cons.mpr ⟨g aC_NoName, List.forall_mem_cons.mpr ⟨g aC_NotPhrase, List.forall_mem_cons.mpr ⟨g aC_Breaks, List.forall_mem_cons.mpr ⟨g aC_Clash, List.forall_mem_cons.mpr ⟨g aC_TooMany, List.forall_mem_cons.mpr ⟨g aC_NoChange, List.forall_mem_cons.mpr ⟨g aC_LastOrder, fun _ h => nomatch h⟩⟩⟩⟩⟩⟩⟩⟩⟩⟩⟩⟩⟩⟩⟩⟩⟩⟩⟩⟩⟩⟩⟩⟩)
  have E_TooMany : ErrK l.prog w K mg "TooMany" C_TooMany 2 (fun vs => (["what", "most"] : List PySem.Str).zip vs) := errK2 (st := st_TooMany) (g aC_TooMany) (z z_super) (qual := "TooMany.__init__") ⟨⟨_, _, _, _, _, _, _, _, _, _, _, _, _, _, _, xL_TooMany, rv_TooMany, al_TooMany⟩, sa_TooMany, iC_TooMany, tC_TooMany, kC_TooMany, eC_TooMany, vC_TooMany, sf_TooMany, ty_TooMany, ⟨_, _, _, fn_TooMany⟩, ⟨_, _, _, ce_TooMany⟩, ⟨_, _, _, _, _, _, cod_TooMany, vf_TooMany, ff_TooMany⟩, h_opq, ⟨_, rfl, rfl⟩, rfl, rfl, rfl, rfl, h_top⟩ rfl (fun _ => ⟨⟨_, rfl⟩, rfl⟩) (fun _ => rfl) (fun _ => rfl) cd_TooMany rfl rfl (by decide) (by decide) (by decide) (by decide) (by decide) (by decide +kernel) rfl rfl no_what_TooMany no_most_TooMany (fun _ _ _ _ => .of_eq rfl)
  have EN_TooMany : ErrN l.prog w K mg "TooMany" C_TooMany ["what", "most"] := errN2 (st := st_TooMany) (g aC_TooMany) (z z_super) (qual := "TooMany.__init__") ⟨⟨_, _, _, _, _, _, _, _, _, _, _, _, _, _, _, xL_TooMany, rv_TooMany, al_TooMany⟩, sa_TooMany, iC_TooMany, tC_TooMany, kC_TooMany, eC_TooMany, vC_TooMany, sf_TooMany, ty_TooMany, ⟨_, _, _, fn_TooMany⟩, ⟨_, _, _, ce_TooMany⟩, ⟨_, _, _, _, _, _, cod_TooMany, vf_TooMany, ff_TooMany⟩, h_opq, ⟨_, rfl, rfl⟩, rfl, rfl, rfl, rfl, h_top⟩ rfl (fun _ => ⟨⟨_, rfl⟩, rfl⟩) (fun _ => rfl) (fun _ => rfl) cd_TooMany rfl rfl (by decide) (by decide) (by decide) (by decide) (by decide) (by decide +kernel) rfl rfl no_what_TooMany no_most_TooMany (fun _ _ _ _ => .of_eq rfl)
  have E_NoName : ErrK l.prog w K mg "NoName" C_NoName 1 (fun vs => (["name"] : List PySem.Str).zip vs) := errK1 (st := st_NoName) (g aC_NoName) (z z_super) (qual := "NoName.__init__") ⟨⟨_, _, _, _, _, _, _, _, _, _, _, _, _, _, _, xL_NoName, rv_NoName, al_NoName⟩, sa_NoName, iC_NoName, tC_NoName, kC_NoName, eC_NoName, vC_NoName, sf_NoName, ty_NoName, ⟨_, _, _, fn_NoName⟩, ⟨_, _, _, ce_NoName⟩, ⟨_, _, _, _, _, _, cod_NoName, vf_NoName, ff_NoName⟩, h_opq, ⟨_, rfl, rfl⟩, rfl, rfl, rfl, rfl, h_top⟩ rfl (fun _ => ⟨⟨_, rfl⟩, rfl⟩) (fun _ => rfl) cd_NoName rfl (by decide) (by decide) (by decide +kernel) rfl rfl no_name_NoName (fun _ _ _ => .of_eq rfl)
  have EN_NoName : ErrN l.prog w K mg "NoName" C_NoName ["name"] := errN1 (st := st_NoName) (g aC_NoName) (z z_super) (qual := "NoName.__init__") ⟨⟨_, _, _, _, _, _, _, _, _, _, _, _, _, _, _, xL_NoName, rv_NoName, al_NoName⟩, sa_NoName, iC_NoName, tC_NoName, kC_NoName, eC_NoName, vC_NoName, sf_NoName, ty_NoName, ⟨_, _, _, fn_NoName⟩, ⟨_, _, _, ce_NoName⟩, ⟨_, _, _, _, _, _, cod_NoName, vf_NoName, ff_NoName⟩, h_opq, ⟨_, rfl, rfl⟩, rfl, rfl, rfl, rfl, h_top⟩ rfl (fun _ => ⟨⟨_, rfl⟩, rfl⟩) (fun _ => rfl) cd_NoName rfl (by decide) (by decide) (by decide +kernel) rfl rfl no_name_NoName (fun _ _ _ => .of_eq rfl)
  have E_BadCommand : ErrK l.prog w K mg "BadCommand" C_BadCommand 1 (fun vs => (["word"] : List PySem.Str).zip vs) := errK1 (st := st_BadCommand) (g aC_BadCommand) (z z_super) (qual := "BadCommand.__init__") ⟨⟨_, _, _, _, _, _, _, _, _, _, _, _, _, _, _, xL_BadCommand, rv_BadCommand, al_BadCommand⟩, sa_BadCommand, iC_BadCommand, tC_BadCommand, kC_BadCommand, eC_BadCommand, vC_BadCommand, sf_BadCommand, ty_BadCommand, ⟨_, _, _, fn_BadCommand⟩, ⟨_, _, _, ce_BadCommand⟩, ⟨_, _, _, _, _, _, cod_BadCommand, vf_BadCommand, ff_BadCommand⟩, h_opq, ⟨_, rfl, rfl⟩, rfl, rfl, rfl, rfl, h_top⟩ rfl (fun _ => ⟨⟨_, rfl⟩, rfl⟩) (fun _ => rfl) cd_BadCommand rfl (by decide) (by decide) (by decide +kernel) rfl rfl no_word_BadCommand (fun _ _ _ => .of_eq rfl)
  have EN_BadCommand : ErrN l.prog w K mg "BadCommand" C_BadCommand ["word"] := errN1 (st := st_BadCommand) (g aC_BadCommand) (z z_super) (qual := "BadCommand.__init__") ⟨⟨_, _, _, _, _, _, _, _, _, _, _, _, _, _, _, xL_BadCommand, rv_BadCommand, al_BadCommand⟩, sa_BadCommand, iC_BadCommand, tC_BadCommand, kC_BadCommand, eC_BadCommand, vC_BadCommand, sf_BadCommand, ty_BadCommand, ⟨_, _, _, fn_BadCommand⟩, ⟨_, _, _, ce_BadCommand⟩, ⟨_, _, _, _, _, _, cod_BadCommand, vf_BadCommand, ff_BadCommand⟩, h_opq, ⟨_, rfl, rfl⟩, rfl, rfl, rfl, rfl, h_top⟩ rfl (fun _ => ⟨⟨_, rfl⟩, rfl⟩) (fun _ => rfl) cd_BadCommand rfl (by decide) (by decide) (by decide +kernel) rfl rfl no_word_BadCommand (fun _ _ _ => .of_eq rfl)
  have E_Taken : ErrK l.prog w K mg "Taken" C_Taken 1 (fun vs => (["word"] : List PySem.Str).zip vs) := errK1 (st := st_Taken) (g aC_Taken) (z z_super) (qual := "Taken.__init__") ⟨⟨_, _, _, _, _, _, _, _, _, _, _, _, _, _, _, xL_Taken, rv_Taken, al_Taken⟩, sa_Taken, iC_Taken, tC_Taken, kC_Taken, eC_Taken, vC_Taken, sf_Taken, ty_Taken, ⟨_, _, _, fn_Taken⟩, ⟨_, _, _, ce_Taken⟩, ⟨_, _, _, _, _, _, cod_Taken, vf_Taken, ff_Taken⟩, h_opq, ⟨_, rfl, rfl⟩, rfl, rfl, rfl, rfl, h_top⟩ rfl (fun _ => ⟨⟨_, rfl⟩, rfl⟩) (fun _ => rfl) cd_Taken rfl (by decide) (by decide) (by decide +kernel) rfl rfl no_word_Taken (fun _ _ _ => .of_eq rfl)
  have EN_Taken : ErrN l.prog w K mg "Taken" C_Taken ["word"] := errN1 (st := st_Taken) (g aC_Taken) (z z_super) (qual := "Taken.__init__") ⟨⟨_, _, _, _, _, _, _, _, _, _, _, _, _, _, _, xL_Taken, rv_Taken, al_Taken⟩, sa_Taken, iC_Taken, tC_Taken, kC_Taken, eC_Taken, vC_Taken, sf_Taken, ty_Taken, ⟨_, _, _, fn_Taken⟩, ⟨_, _, _, ce_Taken⟩, ⟨_, _, _, _, _, _, cod_Taken, vf_Taken, ff_Taken⟩, h_opq, ⟨_, rfl, rfl⟩, rfl, rfl, rfl, rfl, h_top⟩ rfl (fun _ => ⟨⟨_, rfl⟩, rfl⟩) (fun _ => rfl) cd_Taken rfl (by decide) (by decide) (by decide +kernel) rfl rfl no_word_Taken (fun _ _ _ => .of_eq rfl)
  have E_NoWord : ErrK l.prog w K mg "NoWord" C_NoWord 1 (fun vs => (["word"] : List PySem.Str).zip vs) := errK1 (st := st_NoWord) (g aC_NoWord) (z z_super) (qual := "NoWord.__init__") ⟨⟨_, _, _, _, _, _, _, _, _, _, _, _, _, _, _, xL_NoWord, rv_NoWord, al_NoWord⟩, sa_NoWord, iC_NoWord, tC_NoWord, kC_NoWord, eC_NoWord, vC_NoWord, sf_NoWord, ty_NoWord, ⟨_, _, _, fn_NoWord⟩, ⟨_, _, _, ce_NoWord⟩, ⟨_, _, _, _, _, _, cod_NoWord, vf_NoWord, ff_NoWord⟩, h_opq, ⟨_, rfl, rfl⟩, rfl, rfl, rfl, rfl, h_top⟩ rfl (fun _ => ⟨⟨_, rfl⟩, rfl⟩) (fun _ => rfl) cd_NoWord rfl (by decide) (by decide) (by decide +kernel) rfl rfl no_word_NoWord (fun _ _ _ => .of_eq rfl)
  have EN_NoWord : ErrN l.prog w K mg "NoWord" C_NoWord ["word"] := errN1 (st := st_NoWord) (g aC_NoWord) (z z_super) (qual := "NoWord.__init__") ⟨⟨_, _, _, _, _, _, _, _, _, _, _, _, _, _, _, xL_NoWord, rv_NoWord, al_NoWord⟩, sa_NoWord, iC_NoWord, tC_NoWord, kC_NoWord, eC_NoWord, vC_NoWord, sf_NoWord, ty_NoWord, ⟨_, _, _, fn_NoWord⟩, ⟨_, _, _, ce_NoWord⟩, ⟨_, _, _, _, _, _, cod_NoWord, vf_NoWord, ff_NoWord⟩, h_opq, ⟨_, rfl, rfl⟩, rfl, rfl, rfl, rfl, h_top⟩ rfl (fun _ => ⟨⟨_, rfl⟩, rfl⟩) (fun _ => rfl) cd_NoWord rfl (by decide) (by decide) (by decide +kernel) rfl rfl no_word_NoWord (fun _ _ _ => .of_eq rfl)
  have E_BadList : ErrK l.prog w K mg "BadList" C_BadList 1 (fun vs => (["at"] : List PySem.Str).zip vs) := errK1 (st := st_BadList) (g aC_BadList) (z z_super) (qual := "BadList.__init__") ⟨⟨_, _, _, _, _, _, _, _, _, _, _, _, _, _, _, xL_BadList, rv_BadList, al_BadList⟩, sa_BadList, iC_BadList, tC_BadList, kC_BadList, eC_BadList, vC_BadList, sf_BadList, ty_BadList, ⟨_, _, _, fn_BadList⟩, ⟨_, _, _, ce_BadList⟩, ⟨_, _, _, _, _, _, cod_BadList, vf_BadList, ff_BadList⟩, h_opq, ⟨_, rfl, rfl⟩, rfl, rfl, rfl, rfl, h_top⟩ rfl (fun _ => ⟨⟨_, rfl⟩, rfl⟩) (fun _ => rfl) cd_BadList rfl (by decide) (by decide) (by decide +kernel) rfl rfl no_at_BadList (fun _ _ _ => .of_eq rfl)
  have EN_BadList : ErrN l.prog w K mg "BadList" C_BadList ["at"] := errN1 (st := st_BadList) (g aC_BadList) (z z_super) (qual := "BadList.__init__") ⟨⟨_, _, _, _, _, _, _, _, _, _, _, _, _, _, _, xL_BadList, rv_BadList, al_BadList⟩, sa_BadList, iC_BadList, tC_BadList, kC_BadList, eC_BadList, vC_BadList, sf_BadList, ty_BadList, ⟨_, _, _, fn_BadList⟩, ⟨_, _, _, ce_BadList⟩, ⟨_, _, _, _, _, _, cod_BadList, vf_BadList, ff_BadList⟩, h_opq, ⟨_, rfl, rfl⟩, rfl, rfl, rfl, rfl, h_top⟩ rfl (fun _ => ⟨⟨_, rfl⟩, rfl⟩) (fun _ => rfl) cd_BadList rfl (by decide) (by decide) (by decide +kernel) rfl rfl no_at_BadList (fun _ _ _ => .of_eq rfl)
  have E_BadNode : ErrK l.prog w K mg "BadNode" C_BadNode 1 (fun vs => (["at"] : List PySem.Str).zip vs) := errK1 (st := st_BadNode) (g aC_BadNode) (z z_super) (qual := "BadNode.__init__") ⟨⟨_, _, _, _, _, _, _, _, _, _, _, _, _, _, _, xL_BadNode, rv_BadNode, al_BadNode⟩, sa_BadNode, iC_BadNode, tC_BadNode, kC_BadNode, eC_BadNode, vC_BadNode, sf_BadNode, ty_BadNode, ⟨_, _, _, fn_BadNode⟩, ⟨_, _, _, ce_BadNode⟩, ⟨_, _, _, _, _, _, cod_BadNode, vf_BadNode, ff_BadNode⟩, h_opq, ⟨_, rfl, rfl⟩, rfl, rfl, rfl, rfl, h_top⟩ rfl (fun _ => ⟨⟨_, rfl⟩, rfl⟩) (fun _ => rfl) cd_BadNode rfl (by decide) (by decide) (by decide +kernel) rfl rfl no_at_BadNode (fun _ _ _ => .of_eq rfl)
  have EN_BadNode : ErrN l.prog w K mg "BadNode" C_BadNode ["at"] := errN1 (st := st_BadNode) (g aC_BadNode) (z z_super) (qual := "BadNode.__init__") ⟨⟨_, _, _, _, _, _, _, _, _, _, _, _, _, _, _, xL_BadNode, rv_BadNode, al_BadNode⟩, sa_BadNode, iC_BadNode, tC_BadNode, kC_BadNode, eC_BadNode, vC_BadNode, sf_BadNode, ty_BadNode, ⟨_, _, _, fn_BadNode⟩, ⟨_, _, _, ce_BadNode⟩, ⟨_, _, _, _, _, _, cod_BadNode, vf_BadNode, ff_BadNode⟩, h_opq, ⟨_, rfl, rfl⟩, rfl, rfl, rfl, rfl, h_top⟩ rfl (fun _ => ⟨⟨_, rfl⟩, rfl⟩) (fun _ => rfl) cd_BadNode rfl (by decide) (by decide) (by decide +kernel) rfl rfl no_at_BadNode (fun _ _ _ => .of_eq rfl)
  have E_BadBook : ErrK l.prog w K mg "BadBook" C_BadBook 1 (fun vs => (["at"] : List PySem.Str).zip vs) := errK1 (st := st_BadBook) (g aC_BadBook) (z z_super) (qual := "BadBook.__init__") ⟨⟨_, _, _, _, _, _, _, _, _, _, _, _, _, _, _, xL_BadBook, rv_BadBook, al_BadBook⟩, sa_BadBook, iC_BadBook, tC_BadBook, kC_BadBook, eC_BadBook, vC_BadBook, sf_BadBook, ty_BadBook, ⟨_, _, _, fn_BadBook⟩, ⟨_, _, _, ce_BadBook⟩, ⟨_, _, _, _, _, _, cod_BadBook, vf_BadBook, ff_BadBook⟩, h_opq, ⟨_, rfl, rfl⟩, rfl, rfl, rfl, rfl, h_top⟩ rfl (fun _ => ⟨⟨_, rfl⟩, rfl⟩) (fun _ => rfl) cd_BadBook rfl (by decide) (by decide) (by decide +kernel) rfl rfl no_at_BadBook (fun _ _ _ => .of_eq rfl)
  have EN_BadBook : ErrN l.prog w K mg "BadBook" C_BadBook ["at"] := errN1 (st := st_BadBook) (g aC_BadBook) (z z_super) (qual := "BadBook.__init__") ⟨⟨_, _, _, _, _, _, _, _, _, _, _, _, _, _, _, xL_BadBook, rv_BadBook, al_BadBook⟩, sa_BadBook, iC_BadBook, tC_BadBook, kC_BadBook, eC_BadBook, vC_BadBook, sf_BadBook, ty_BadBook, ⟨_, _, _, fn_BadBook⟩, ⟨_, _, _, ce_BadBook⟩, ⟨_, _, _, _, _, _, cod_BadBook, vf_BadBook, ff_BadBook⟩, h_opq, ⟨_, rfl, rfl⟩, rfl, rfl, rfl, rfl, h_top⟩ rfl (fun _ => ⟨⟨_, rfl⟩, rfl⟩) (fun _ => rfl) cd_BadBook rfl (by decide) (by decide) (by decide +kernel) rfl rfl no_at_BadBook (fun _ _ _ => .of_eq rfl)
  have E_Unlike : ErrK l.prog w K mg "Unlike" C_Unlike 1 (fun vs => (["part"] : List PySem.Str).zip vs) := errK1 (st := st_Unlike) (g aC_Unlike) (z z_super) (qual := "Unlike.__init__") ⟨⟨_, _, _, _, _, _, _, _, _, _, _, _, _, _, _, xL_Unlike, rv_Unlike, al_Unlike⟩, sa_Unlike, iC_Unlike, tC_Unlike, kC_Unlike, eC_Unlike, vC_Unlike, sf_Unlike, ty_Unlike, ⟨_, _, _, fn_Unlike⟩, ⟨_, _, _, ce_Unlike⟩, ⟨_, _, _, _, _, _, cod_Unlike, vf_Unlike, ff_Unlike⟩, h_opq, ⟨_, rfl, rfl⟩, rfl, rfl, rfl, rfl, h_top⟩ rfl (fun _ => ⟨⟨_, rfl⟩, rfl⟩) (fun _ => rfl) cd_Unlike rfl (by decide) (by decide) (by decide +kernel) rfl rfl no_part_Unlike (fun _ _ _ => .of_eq rfl)
  have EN_Unlike : ErrN l.prog w K mg "Unlike" C_Unlike ["part"] := errN1 (st := st_Unlike) (g aC_Unlike) (z z_super) (qual := "Unlike.__init__") ⟨⟨_, _, _, _, _, _, _, _, _, _, _, _, _, _, _, xL_Unlike, rv_Unlike, al_Unlike⟩, sa_Unlike, iC_Unlike, tC_Unlike, kC_Unlike, eC_Unlike, vC_Unlike, sf_Unlike, ty_Unlike, ⟨_, _, _, fn_Unlike⟩, ⟨_, _, _, ce_Unlike⟩, ⟨_, _, _, _, _, _, cod_Unlike, vf_Unlike, ff_Unlike⟩, h_opq, ⟨_, rfl, rfl⟩, rfl, rfl, rfl, rfl, h_top⟩ rfl (fun _ => ⟨⟨_, rfl⟩, rfl⟩) (fun _ => rfl) cd_Unlike rfl (by decide) (by decide) (by decide +kernel) rfl rfl no_part_Unlike (fun _ _ _ => .of_eq rfl)
  have E_BadTree : ErrK l.prog w K mg "BadTree" C_BadTree 1 (fun vs => (["part"] : List PySem.Str).zip vs) := errK1 (st := st_BadTree) (g aC_BadTree) (z z_super) (qual := "BadTree.__init__") ⟨⟨_, _, _, _, _, _, _, _, _, _, _, _, _, _, _, xL_BadTree, rv_BadTree, al_BadTree⟩, sa_BadTree, iC_BadTree, tC_BadTree, kC_BadTree, eC_BadTree, vC_BadTree, sf_BadTree, ty_BadTree, ⟨_, _, _, fn_BadTree⟩, ⟨_, _, _, ce_BadTree⟩, ⟨_, _, _, _, _, _, cod_BadTree, vf_BadTree, ff_BadTree⟩, h_opq, ⟨_, rfl, rfl⟩, rfl, rfl, rfl, rfl, h_top⟩ rfl (fun _ => ⟨⟨_, rfl⟩, rfl⟩) (fun _ => rfl) cd_BadTree rfl (by decide) (by decide) (by decide +kernel) rfl rfl no_part_BadTree (fun _ _ _ => .of_eq rfl)
  have EN_BadTree : ErrN l.prog w K mg "BadTree" C_BadTree ["part"] := errN1 (st := st_BadTree) (g aC_BadTree) (z z_super) (qual := "BadTree.__init__") ⟨⟨_, _, _, _, _, _, _, _, _, _, _, _, _, _, _, xL_BadTree, rv_BadTree, al_BadTree⟩, sa_BadTree, iC_BadTree, tC_BadTree, kC_BadTree, eC_BadTree, vC_BadTree, sf_BadTree, ty_BadTree, ⟨_, _, _, fn_BadTree⟩, ⟨_, _, _, ce_BadTree⟩, ⟨_, _, _, _, _, _, cod_BadTree, vf_BadTree, ff_BadTree⟩, h_opq, ⟨_, rfl, rfl⟩, rfl, rfl, rfl, rfl, h_top⟩ rfl (fun _ => ⟨⟨_, rfl⟩, rfl⟩) (fun _ => rfl) cd_BadTree rfl (by decide) (by decide) (by decide +kernel) rfl rfl no_part_BadTree (fun _ _ _ => .of_eq rfl)
  have E_BadGroup : ErrK l.prog w K mg "BadGroup" C_BadGroup 1 (fun vs => (["part"] : List PySem.Str).zip vs) := errK1 (st := st_BadGroup) (g aC_BadGroup) (z z_super) (qual := "BadGroup.__init__") ⟨⟨_, _, _, _, _, _, _, _, _, _, _, _, _, _, _, xL_BadGroup, rv_BadGroup, al_BadGroup⟩, sa_BadGroup, iC_BadGroup, tC_BadGroup, kC_BadGroup, eC_BadGroup, vC_BadGroup, sf_BadGroup, ty_BadGroup, ⟨_, _, _, fn_BadGroup⟩, ⟨_, _, _, ce_BadGroup⟩, ⟨_, _, _, _, _, _, cod_BadGroup, vf_BadGroup, ff_BadGroup⟩, h_opq, ⟨_, rfl, rfl⟩, rfl, rfl, rfl, rfl, h_top⟩ rfl (fun _ => ⟨⟨_, rfl⟩, rfl⟩) (fun _ => rfl) cd_BadGroup rfl (by decide) (by decide) (by decide +kernel) rfl rfl no_part_BadGroup (fun _ _ _ => .of_eq rfl)
  have EN_BadGroup : ErrN l.prog w K mg "BadGroup" C_BadGroup ["part"] := errN1 (st := st_BadGroup) (g aC_BadGroup) (z z_super) (qual := "BadGroup.__init__") ⟨⟨_, _, _, _, _, _, _, _, _, _, _, _, _, _, _, xL_BadGroup, rv_BadGroup, al_BadGroup⟩, sa_BadGroup, iC_BadGroup, tC_BadGroup, kC_BadGroup, eC_BadGroup, vC_BadGroup, sf_BadGroup, ty_BadGroup, ⟨_, _, _, fn_BadGroup⟩, ⟨_, _, _, ce_BadGroup⟩, ⟨_, _, _, _, _, _, cod_BadGroup, vf_BadGroup, ff_BadGroup⟩, h_opq, ⟨_, rfl, rfl⟩, rfl, rfl, rfl, rfl, h_top⟩ rfl (fun _ => ⟨⟨_, rfl⟩, rfl⟩) (fun _ => rfl) cd_BadGroup rfl (by decide) (by decide) (by decide +kernel) rfl rfl no_part_BadGroup (fun _ _ _ => .of_eq rfl)
  have E_BadOrder : ErrK l.prog w K mg "BadOrder" C_BadOrder 1 (fun vs => (["part"] : List PySem.Str).zip vs) := errK1 (st := st_BadOrder) (g aC_BadOrder) (z z_super) (qual := "BadOrder.__init__") ⟨⟨_, _, _, _, _, _, _, _, _, _, _, _, _, _, _, xL_BadOrder, rv_BadOrder, al_BadOrder⟩, sa_BadOrder, iC_BadOrder, tC_BadOrder, kC_BadOrder, eC_BadOrder, vC_BadOrder, sf_BadOrder, ty_BadOrder, ⟨_, _, _, fn_BadOrder⟩, ⟨_, _, _, ce_BadOrder⟩, ⟨_, _, _, _, _, _, cod_BadOrder, vf_BadOrder, ff_BadOrder⟩, h_opq, ⟨_, rfl, rfl⟩, rfl, rfl, rfl, rfl, h_top⟩ rfl (fun _ => ⟨⟨_, rfl⟩, rfl⟩) (fun _ => rfl) cd_BadOrder rfl (by decide) (by decide) (by decide +kernel) rfl rfl no_part_BadOrder (fun _ _ _ => .of_eq rfl)
  have EN_BadOrder : ErrN l.prog w K mg "BadOrder" C_BadOrder ["part"] := errN1 (st := st_BadOrder) (g aC_BadOrder) (z z_super) (qual := "BadOrder.__init__") ⟨⟨_, _, _, _, _, _, _, _, _, _, _, _, _, _, _, xL_BadOrder, rv_BadOrder, al_BadOrder⟩, sa_BadOrder, iC_BadOrder, tC_BadOrder, kC_BadOrder, eC_BadOrder, vC_BadOrder, sf_BadOrder, ty_BadOrder, ⟨_, _, _, fn_BadOrder⟩, ⟨_, _, _, ce_BadOrder⟩, ⟨_, _, _, _, _, _, cod_BadOrder, vf_BadOrder, ff_BadOrder⟩, h_opq, ⟨_, rfl, rfl⟩, rfl, rfl, rfl, rfl, h_top⟩ rfl (fun _ => ⟨⟨_, rfl⟩, rfl⟩) (fun _ => rfl) cd_BadOrder rfl (by decide) (by decide) (by decide +kernel) rfl rfl no_part_BadOrder (fun _ _ _ => .of_eq rfl)
  have E_BadLimit : ErrK l.prog w K mg "BadLimit" C_BadLimit 1 (fun vs => (["value"] : List PySem.Str).zip vs) := errK1 (st := st_BadLimit) (g aC_BadLimit) (z z_super) (qual := "BadLimit.__init__") ⟨⟨_, _, _, _, _, _, _, _, _, _, _, _, _, _, _, xL_BadLimit, rv_BadLimit, al_BadLimit⟩, sa_BadLimit, iC_BadLimit, tC_BadLimit, kC_BadLimit, eC_BadLimit, vC_BadLimit, sf_BadLimit, ty_BadLimit, ⟨_, _, _, fn_BadLimit⟩, ⟨_, _, _, ce_BadLimit⟩, ⟨_, _, _, _, _, _, cod_BadLimit, vf_BadLimit, ff_BadLimit⟩, h_opq, ⟨_, rfl, rfl⟩, rfl, rfl, rfl, rfl, h_top⟩ rfl (fun _ => ⟨⟨_, rfl⟩, rfl⟩) (fun _ => rfl) cd_BadLimit rfl (by decide) (by decide) (by decide +kernel) rfl rfl no_value_BadLimit (fun _ _ _ => .of_eq rfl)
  have EN_BadLimit : ErrN l.prog w K mg "BadLimit" C_BadLimit ["value"] := errN1 (st := st_BadLimit) (g aC_BadLimit) (z z_super) (qual := "BadLimit.__init__") ⟨⟨_, _, _, _, _, _, _, _, _, _, _, _, _, _, _, xL_BadLimit, rv_BadLimit, al_BadLimit⟩, sa_BadLimit, iC_BadLimit, tC_BadLimit, kC_BadLimit, eC_BadLimit, vC_BadLimit, sf_BadLimit, ty_BadLimit, ⟨_, _, _, fn_BadLimit⟩, ⟨_, _, _, ce_BadLimit⟩, ⟨_, _, _, _, _, _, cod_BadLimit, vf_BadLimit, ff_BadLimit⟩, h_opq, ⟨_, rfl, rfl⟩, rfl, rfl, rfl, rfl, h_top⟩ rfl (fun _ => ⟨⟨_, rfl⟩, rfl⟩) (fun _ => rfl) cd_BadLimit rfl (by decide) (by decide) (by decide +kernel) rfl rfl no_value_BadLimit (fun _ _ _ => .of_eq rfl)
  have E_BadCount : ErrK l.prog w K mg "BadCount" C_BadCount 1 (fun vs => (["value"] : List PySem.Str).zip vs) := errK1 (st := st_BadCount) (g aC_BadCount) (z z_super) (qual := "BadCount.__init__") ⟨⟨_, _, _, _, _, _, _, _, _, _, _, _, _, _, _, xL_BadCount, rv_BadCount, al_BadCount⟩, sa_BadCount, iC_BadCount, tC_BadCount, kC_BadCount, eC_BadCount, vC_BadCount, sf_BadCount, ty_BadCount, ⟨_, _, _, fn_BadCount⟩, ⟨_, _, _, ce_BadCount⟩, ⟨_, _, _, _, _, _, cod_BadCount, vf_BadCount, ff_BadCount⟩, h_opq, ⟨_, rfl, rfl⟩, rfl, rfl, rfl, rfl, h_top⟩ rfl (fun _ => ⟨⟨_, rfl⟩, rfl⟩) (fun _ => rfl) cd_BadCount rfl (by decide) (by decide) (by decide +kernel) rfl rfl no_value_BadCount (fun _ _ _ => .of_eq rfl)
  have EN_BadCount : ErrN l.prog w K mg "BadCount" C_BadCount ["value"] := errN1 (st := st_BadCount) (g aC_BadCount) (z z_super) (qual := "BadCount.__init__") ⟨⟨_, _, _, _, _, _, _, _, _, _, _, _, _, _, _, xL_BadCount, rv_BadCount, al_BadCount⟩, sa_BadCount, iC_BadCount, tC_BadCount, kC_BadCount, eC_BadCount, vC_BadCount, sf_BadCount, ty_BadCount, ⟨_, _, _, fn_BadCount⟩, ⟨_, _, _, ce_BadCount⟩, ⟨_, _, _, _, _, _, cod_BadCount, vf_BadCount, ff_BadCount⟩, h_opq, ⟨_, rfl, rfl⟩, rfl, rfl, rfl, rfl, h_top⟩ rfl (fun _ => ⟨⟨_, rfl⟩, rfl⟩) (fun _ => rfl) cd_BadCount rfl (by decide) (by decide) (by decide +kernel) rfl rfl no_value_BadCount (fun _ _ _ => .of_eq rfl)
  have E_BadTruth : ErrK l.prog w K mg "BadTruth" C_BadTruth 1 (fun vs => (["value"] : List PySem.Str).zip vs) := errK1 (st := st_BadTruth) (g aC_BadTruth) (z z_super) (qual := "BadTruth.__init__") ⟨⟨_, _, _, _, _, _, _, _, _, _, _, _, _, _, _, xL_BadTruth, rv_BadTruth, al_BadTruth⟩, sa_BadTruth, iC_BadTruth, tC_BadTruth, kC_BadTruth, eC_BadTruth, vC_BadTruth, sf_BadTruth, ty_BadTruth, ⟨_, _, _, fn_BadTruth⟩, ⟨_, _, _, ce_BadTruth⟩, ⟨_, _, _, _, _, _, cod_BadTruth, vf_BadTruth, ff_BadTruth⟩, h_opq, ⟨_, rfl, rfl⟩, rfl, rfl, rfl, rfl, h_top⟩ rfl (fun _ => ⟨⟨_, rfl⟩, rfl⟩) (fun _ => rfl) cd_BadTruth rfl (by decide) (by decide) (by decide +kernel) rfl rfl no_value_BadTruth (fun _ _ _ => .of_eq rfl)
  have EN_BadTruth : ErrN l.prog w K mg "BadTruth" C_BadTruth ["value"] := errN1 (st := st_BadTruth) (g aC_BadTruth) (z z_super) (qual := "BadTruth.__init__") ⟨⟨_, _, _, _, _, _, _, _, _, _, _, _, _, _, _, xL_BadTruth, rv_BadTruth, al_BadTruth⟩, sa_BadTruth, iC_BadTruth, tC_BadTruth, kC_BadTruth, eC_BadTruth, vC_BadTruth, sf_BadTruth, ty_BadTruth, ⟨_, _, _, fn_BadTruth⟩, ⟨_, _, _, ce_BadTruth⟩, ⟨_, _, _, _, _, _, cod_BadTruth, vf_BadTruth, ff_BadTruth⟩, h_opq, ⟨_, rfl, rfl⟩, rfl, rfl, rfl, rfl, h_top⟩ rfl (fun _ => ⟨⟨_, rfl⟩, rfl⟩) (fun _ => rfl) cd_BadTruth rfl (by decide) (by decide) (by decide +kernel) rfl rfl no_value_BadTruth (fun _ _ _ => .of_eq rfl)
  have E_BadPlace : ErrK l.prog w K mg "BadPlace" C_BadPlace 1 (fun vs => (["value"] : List PySem.Str).zip vs) := errK1 (st := st_BadPlace) (g aC_BadPlace) (z z_super) (qual := "BadPlace.__init__") ⟨⟨_, _, _, _, _, _, _, _, _, _, _, _, _, _, _, xL_BadPlace, rv_BadPlace, al_BadPlace⟩, sa_BadPlace, iC_BadPlace, tC_BadPlace, kC_BadPlace, eC_BadPlace, vC_BadPlace, sf_BadPlace, ty_BadPlace, ⟨_, _, _, fn_BadPlace⟩, ⟨_, _, _, ce_BadPlace⟩, ⟨_, _, _, _, _, _, cod_BadPlace, vf_BadPlace, ff_BadPlace⟩, h_opq, ⟨_, rfl, rfl⟩, rfl, rfl, rfl, rfl, h_top⟩ rfl (fun _ => ⟨⟨_, rfl⟩, rfl⟩) (fun _ => rfl) cd_BadPlace rfl (by decide) (by decide) (by decide +kernel) rfl rfl no_value_BadPlace (fun _ _ _ => .of_eq rfl)
  have EN_BadPlace : ErrN l.prog w K mg "BadPlace" C_BadPlace ["value"] := errN1 (st := st_BadPlace) (g aC_BadPlace) (z z_super) (qual := "BadPlace.__init__") ⟨⟨_, _, _, _, _, _, _, _, _, _, _, _, _, _, _, xL_BadPlace, rv_BadPlace, al_BadPlace⟩, sa_BadPlace, iC_BadPlace, tC_BadPlace, kC_BadPlace, eC_BadPlace, vC_BadPlace, sf_BadPlace, ty_BadPlace, ⟨_, _, _, fn_BadPlace⟩, ⟨_, _, _, ce_BadPlace⟩, ⟨_, _, _, _, _, _, cod_BadPlace, vf_BadPlace, ff_BadPlace⟩, h_opq, ⟨_, rfl, rfl⟩, rfl, rfl, rfl, rfl, h_top⟩ rfl (fun _ => ⟨⟨_, rfl⟩, rfl⟩) (fun _ => rfl) cd_BadPlace rfl (by decide) (by decide) (by decide +kernel) rfl rfl no_value_BadPlace (fun _ _ _ => .of_eq rfl)
  have E_BadWord : ErrK l.prog w K mg "BadWord" C_BadWord 1 (fun vs => (["value"] : List PySem.Str).zip vs) := errK1 (st := st_BadWord) (g aC_BadWord) (z z_super) (qual := "BadWord.__init__") ⟨⟨_, _, _, _, _, _, _, _, _, _, _, _, _, _, _, xL_BadWord, rv_BadWord, al_BadWord⟩, sa_BadWord, iC_BadWord, tC_BadWord, kC_BadWord, eC_BadWord, vC_BadWord, sf_BadWord, ty_BadWord, ⟨_, _, _, fn_BadWord⟩, ⟨_, _, _, ce_BadWord⟩, ⟨_, _, _, _, _, _, cod_BadWord, vf_BadWord, ff_BadWord⟩, h_opq, ⟨_, rfl, rfl⟩, rfl, rfl, rfl, rfl, h_top⟩ rfl (fun _ => ⟨⟨_, rfl⟩, rfl⟩) (fun _ => rfl) cd_BadWord rfl (by decide) (by decide) (by decide +kernel) rfl rfl no_value_BadWord (fun _ _ _ => .of_eq rfl)
  have EN_BadWord : ErrN l.prog w K mg "BadWord" C_BadWord ["value"] := errN1 (st := st_BadWord) (g aC_BadWord) (z z_super) (qual := "BadWord.__init__") ⟨⟨_, _, _, _, _, _, _, _, _, _, _, _, _, _, _, xL_BadWord, rv_BadWord, al_BadWord⟩, sa_BadWord, iC_BadWord, tC_BadWord, kC_BadWord, eC_BadWord, vC_BadWord, sf_BadWord, ty_BadWord, ⟨_, _, _, fn_BadWord⟩, ⟨_, _, _, ce_BadWord⟩, ⟨_, _, _, _, _, _, cod_BadWord, vf_BadWord, ff_BadWord⟩, h_opq, ⟨_, rfl, rfl⟩, rfl, rfl, rfl, rfl, h_top⟩ rfl (fun _ => ⟨⟨_, rfl⟩, rfl⟩) (fun _ => rfl) cd_BadWord rfl (by decide) (by decide) (by decide +kernel) rfl rfl no_value_BadWord (fun _ _ _ => .of_eq rfl)
  have E_Clash : ErrK l.prog w K mg "Clash" C_Clash 2 (fun vs => (["run", "chain"] : List PySem.Str).zip vs) := errK2 (st := st_Clash) (g aC_Clash) (z z_super) (qual := "Clash.__init__") ⟨⟨_, _, _, _, _, _, _, _, _, _, _, _, _, _, _, xL_Clash, rv_Clash, al_Clash⟩, sa_Clash, iC_Clash, tC_Clash, kC_Clash, eC_Clash, vC_Clash, sf_Clash, ty_Clash, ⟨_, _, _, fn_Clash⟩, ⟨_, _, _, ce_Clash⟩, ⟨_, _, _, _, _, _, cod_Clash, vf_Clash, ff_Clash⟩, h_opq, ⟨_, rfl, rfl⟩, rfl, rfl, rfl, rfl, h_top⟩ rfl (fun _ => ⟨⟨_, rfl⟩, rfl⟩) (fun _ => rfl) (fun _ => rfl) cd_Clash rfl rfl (by decide) (by decide) (by decide) (by decide) (by decide) (by decide +kernel) rfl rfl no_run_Clash no_chain_Clash (fun _ _ _ _ => .of_eq rfl)
  have EN_Clash : ErrN l.prog w K mg "Clash" C_Clash ["run", "chain"] := errN2 (st := st_Clash) (g aC_Clash) (z z_super) (qual := "Clash.__init__") ⟨⟨_, _, _, _, _, _, _, _, _, _, _, _, _, _, _, xL_Clash, rv_Clash, al_Clash⟩, sa_Clash, iC_Clash, tC_Clash, kC_Clash, eC_Clash, vC_Clash, sf_Clash, ty_Clash, ⟨_, _, _, fn_Clash⟩, ⟨_, _, _, ce_Clash⟩, ⟨_, _, _, _, _, _, cod_Clash, vf_Clash, ff_Clash⟩, h_opq, ⟨_, rfl, rfl⟩, rfl, rfl, rfl, rfl, h_top⟩ rfl (fun _ => ⟨⟨_, rfl⟩, rfl⟩) (fun _ => rfl) (fun _ => rfl) cd_Clash rfl rfl (by decide) (by decide) (by decide) (by decide) (by decide) (by decide +kernel) rfl rfl no_run_Clash no_chain_Clash (fun _ _ _ _ => .of_eq rfl)
  have E_Breaks : ErrK l.prog w K mg "Breaks" C_Breaks 2 (fun vs => (["group", "pull"] : List PySem.Str).zip vs) := errK2 (st := st_Breaks) (g aC_Breaks) (z z_super) (qual := "Breaks.__init__") ⟨⟨_, _, _, _, _, _, _, _, _, _, _, _, _, _, _, xL_Breaks, rv_Breaks, al_Breaks⟩, sa_Breaks, iC_Breaks, tC_Breaks, kC_Breaks, eC_Breaks, vC_Breaks, sf_Breaks, ty_Breaks, ⟨_, _, _, fn_Breaks⟩, ⟨_, _, _, ce_Breaks⟩, ⟨_, _, _, _, _, _, cod_Breaks, vf_Breaks, ff_Breaks⟩, h_opq, ⟨_, rfl, rfl⟩, rfl, rfl, rfl, rfl, h_top⟩ rfl (fun _ => ⟨⟨_, rfl⟩, rfl⟩) (fun _ => rfl) (fun _ => rfl) cd_Breaks rfl rfl (by decide) (by decide) (by decide) (by decide) (by decide) (by decide +kernel) rfl rfl no_group_Breaks no_pull_Breaks (fun _ _ _ _ => .of_eq rfl)
  have EN_Breaks : ErrN l.prog w K mg "Breaks" C_Breaks ["group", "pull"] := errN2 (st := st_Breaks) (g aC_Breaks) (z z_super) (qual := "Breaks.__init__") ⟨⟨_, _, _, _, _, _, _, _, _, _, _, _, _, _, _, xL_Breaks, rv_Breaks, al_Breaks⟩, sa_Breaks, iC_Breaks, tC_Breaks, kC_Breaks, eC_Breaks, vC_Breaks, sf_Breaks, ty_Breaks, ⟨_, _, _, fn_Breaks⟩, ⟨_, _, _, ce_Breaks⟩, ⟨_, _, _, _, _, _, cod_Breaks, vf_Breaks, ff_Breaks⟩, h_opq, ⟨_, rfl, rfl⟩, rfl, rfl, rfl, rfl, h_top⟩ rfl (fun _ => ⟨⟨_, rfl⟩, rfl⟩) (fun _ => rfl) (fun _ => rfl) cd_Breaks rfl rfl (by decide) (by decide) (by decide) (by decide) (by decide) (by decide +kernel) rfl rfl no_group_Breaks no_pull_Breaks (fun _ _ _ _ => .of_eq rfl)
  have E_NotPhrase : ErrK l.prog w K mg "NotPhrase" C_NotPhrase 2 (fun vs => (["group", "pull"] : List PySem.Str).zip vs) := errK2 (st := st_NotPhrase) (g aC_NotPhrase) (z z_super) (qual := "NotPhrase.__init__") ⟨⟨_, _, _, _, _, _, _, _, _, _, _, _, _, _, _, xL_NotPhrase, rv_NotPhrase, al_NotPhrase⟩, sa_NotPhrase, iC_NotPhrase, tC_NotPhrase, kC_NotPhrase, eC_NotPhrase, vC_NotPhrase, sf_NotPhrase, ty_NotPhrase, ⟨_, _, _, fn_NotPhrase⟩, ⟨_, _, _, ce_NotPhrase⟩, ⟨_, _, _, _, _, _, cod_NotPhrase, vf_NotPhrase, ff_NotPhrase⟩, h_opq, ⟨_, rfl, rfl⟩, rfl, rfl, rfl, rfl, h_top⟩ rfl (fun _ => ⟨⟨_, rfl⟩, rfl⟩) (fun _ => rfl) (fun _ => rfl) cd_NotPhrase rfl rfl (by decide) (by decide) (by decide) (by decide) (by decide) (by decide +kernel) rfl rfl no_group_NotPhrase no_pull_NotPhrase (fun _ _ _ _ => .of_eq rfl)
  have EN_NotPhrase : ErrN l.prog w K mg "NotPhrase" C_NotPhrase ["group", "pull"] := errN2 (st := st_NotPhrase) (g aC_NotPhrase) (z z_super) (qual := "NotPhrase.__init__") ⟨⟨_, _, _, _, _, _, _, _, _, _, _, _, _, _, _, xL_NotPhrase, rv_NotPhrase, al_NotPhrase⟩, sa_NotPhrase, iC_NotPhrase, tC_NotPhrase, kC_NotPhrase, eC_NotPhrase, vC_NotPhrase, sf_NotPhrase, ty_NotPhrase, ⟨_, _, _, fn_NotPhrase⟩, ⟨_, _, _, ce_NotPhrase⟩, ⟨_, _, _, _, _, _, cod_NotPhrase, vf_NotPhrase, ff_NotPhrase⟩, h_opq, ⟨_, rfl, rfl⟩, rfl, rfl, rfl, rfl, h_top⟩ rfl (fun _ => ⟨⟨_, rfl⟩, rfl⟩) (fun _ => rfl) (fun _ => rfl) cd_NotPhrase rfl rfl (by decide) (by decide) (by decide) (by decide) (by decide) (by decide +kernel) rfl rfl no_group_NotPhrase no_pull_NotPhrase (fun _ _ _ _ => .of_eq rfl)
  have E_BadText : ErrK l.prog w K mg "BadText" C_BadText 2 (fun vs => (["line", "word"] : List PySem.Str).zip vs) := errK2 (st := st_BadText) (g aC_BadText) (z z_super) (qual := "BadText.__init__") ⟨⟨_, _, _, _, _, _, _, _, _, _, _, _, _, _, _, xL_BadText, rv_BadText, al_BadText⟩, sa_BadText, iC_BadText, tC_BadText, kC_BadText, eC_BadText, vC_BadText, sf_BadText, ty_BadText, ⟨_, _, _, fn_BadText⟩, ⟨_, _, _, ce_BadText⟩, ⟨_, _, _, _, _, _, cod_BadText, vf_BadText, ff_BadText⟩, h_opq, ⟨_, rfl, rfl⟩, rfl, rfl, rfl, rfl, h_top⟩ rfl (fun _ => ⟨⟨_, rfl⟩, rfl⟩) (fun _ => rfl) (fun _ => rfl) cd_BadText rfl rfl (by decide) (by decide) (by decide) (by decide) (by decide) (by decide +kernel) rfl rfl no_line_BadText no_word_BadText (fun _ _ _ _ => .of_eq rfl)
  have EN_BadText : ErrN l.prog w K mg "BadText" C_BadText ["line", "word"] := errN2 (st := st_BadText) (g aC_BadText) (z z_super) (qual := "BadText.__init__") ⟨⟨_, _, _, _, _, _, _, _, _, _, _, _, _, _, _, xL_BadText, rv_BadText, al_BadText⟩, sa_BadText, iC_BadText, tC_BadText, kC_BadText, eC_BadText, vC_BadText, sf_BadText, ty_BadText, ⟨_, _, _, fn_BadText⟩, ⟨_, _, _, ce_BadText⟩, ⟨_, _, _, _, _, _, cod_BadText, vf_BadText, ff_BadText⟩, h_opq, ⟨_, rfl, rfl⟩, rfl, rfl, rfl, rfl, h_top⟩ rfl (fun _ => ⟨⟨_, rfl⟩, rfl⟩) (fun _ => rfl) (fun _ => rfl) cd_BadText rfl rfl (by decide) (by decide) (by decide) (by decide) (by decide) (by decide +kernel) rfl rfl no_line_BadText no_word_BadText (fun _ _ _ _ => .of_eq rfl)
  have U_pen := fun_mk (st := st_pen) l_pen c_pen k_pen
  have b_pen := U_pen.binds (ps := ps_pen) fun _ _ _ _ _ _ us hl => match us, hl with | [_], _ => rfl
  have U_kinds := fun_mk (st := st_kinds) l_kinds c_kinds k_kinds
  have b_kinds := U_kinds.binds (ps := ps_kinds) fun _ _ _ _ _ _ us hl => match us, hl with | [_], _ => rfl
  have U_caught := fun_mk (st := st_caught) l_caught c_caught k_caught
  have b_caught := U_caught.binds (ps := ps_caught) fun _ _ _ _ _ _ us hl => match us, hl with | [_], _ => rfl
  have U_draw := fun_mk (st := st_draw) l_draw c_draw k_draw
  have b_draw := U_draw.binds (ps := ps_draw) fun _ _ _ _ _ _ us hl => match us, hl with | [_, _], _ => rfl
  have U_pick := fun_mk (st := st_pick) l_pick c_pick k_pick
  have b_pick := U_pick.binds (ps := ps_pick) fun _ _ _ _ _ _ us hl => match us, hl with | [_, _], _ => rfl
  have U_value := fun_mk (st := st_value) l_value c_value k_value
  have b_value := U_value.binds (ps := ps_value) fun _ _ _ _ _ _ us hl => match us, hl with | [_], _ => rfl
  have U_singles := fun_mk (st := st_singles) l_singles c_singles k_singles
  have b_singles := U_singles.binds (ps := ps_singles) fun _ _ _ _ _ _ us hl => match us, hl with | [_, _], _ => rfl
  have U_doubles := fun_mk (st := st_doubles) l_doubles c_doubles k_doubles
  have b_doubles := U_doubles.binds (ps := ps_doubles) fun _ _ _ _ _ _ us hl => match us, hl with | [_, _, _], _ => rfl
  have U_single_fields := fun_mk (st := st_single_fields) l_single_fields c_single_fields k_single_fields
  have b_single_fields := U_single_fields.binds (ps := ps_single_fields) fun _ _ _ _ _ _ us hl => match us, hl with | [_], _ => rfl
  have U_double_fields := fun_mk (st := st_double_fields) l_double_fields c_double_fields k_double_fields
  have b_double_fields := U_double_fields.binds (ps := ps_double_fields) fun _ _ _ _ _ _ us hl => match us, hl with | [_], _ => rfl
  have U_law := fun_mk (st := st_law) l_law c_law k_law
  have b_law := U_law.binds (ps := ps_law) fun _ _ _ _ _ _ us hl => match us, hl with | [_], _ => rfl
  refine ⟨PySem.W.fnOf "law" "law" (defArgs st_law) (defBody st_law) (defScope st_law) .none kV_law dc_law pm_law an_law cd_law ct_law, [], fun vs H Q _ => spD (cnOf K mg ([] : List (PySem.Str × Addr)) ([("PhraseError", C_PhraseError), ("BadWord", C_BadWord), ("BadPlace", C_BadPlace), ("BadTruth", C_BadTruth), ("BadCount", C_BadCount), ("BadLimit", C_BadLimit), ("BadOrder", C_BadOrder), ("BadGroup", C_BadGroup), ("BadTree", C_BadTree), ("Unlike", C_Unlike), ("BadBook", C_BadBook), ("BadNode", C_BadNode), ("BadList", C_BadList), ("NoWord", C_NoWord), ("Taken", C_Taken), ("BadCommand", C_BadCommand), ("BadText", C_BadText), ("NoName", C_NoName), ("NotPhrase", C_NotPhrase), ("Breaks", C_Breaks), ("Clash", C_Clash), ("TooMany", C_TooMany), ("NoChange", C_NoChange), ("LastOrder", C_LastOrder)] : List (PySem.Str × Addr)) []) 1 (bodyF N_law.length B_law) vs H Q (fun _ _ _ => False), (fun _ h => nomatch h), (fun _ h => nomatch h), (fun _ h => nomatch h), fun s v => .of_eq rfl, fun H a ns hl hH hS => law_ends (c := (cnOf K mg ([] : List (PySem.Str × Addr)) ([("PhraseError", C_PhraseError), ("BadWord", C_BadWord), ("BadPlace", C_BadPlace), ("BadTruth", C_BadTruth), ("BadCount", C_BadCount), ("BadLimit", C_BadLimit), ("BadOrder", C_BadOrder), ("BadGroup", C_BadGroup), ("BadTree", C_BadTree), ("Unlike", C_Unlike), ("BadBook", C_BadBook), ("BadNode", C_BadNode), ("BadList", C_BadList), ("NoWord", C_NoWord), ("Taken", C_Taken), ("BadCommand", C_BadCommand), ("BadText", C_BadText), ("NoName", C_NoName), ("NotPhrase", C_NotPhrase), ("Breaks", C_Breaks), ("Clash", C_Clash), ("TooMany", C_TooMany), ("NoChange", C_NoChange), ("LastOrder", C_LastOrder)] : List (PySem.Str × Addr)) [])) ((fun _ h => nomatch h)) hS (LM ns hl), fun base XB GB SY TB => ?_⟩
  have T : Tx (cnOf K mg ([] : List (PySem.Str × Addr)) ([("PhraseError", C_PhraseError), ("BadWord", C_BadWord), ("BadPlace", C_BadPlace), ("BadTruth", C_BadTruth), ("BadCount", C_BadCount), ("BadLimit", C_BadLimit), ("BadOrder", C_BadOrder), ("BadGroup", C_BadGroup), ("BadTree", C_BadTree), ("Unlike", C_Unlike), ("BadBook", C_BadBook), ("BadNode", C_BadNode), ("BadList", C_BadList), ("NoWord", C_NoWord), ("Taken", C_Taken), ("BadCommand", C_BadCommand), ("BadText", C_BadText), ("NoName", C_NoName), ("NotPhrase", C_NotPhrase), ("Breaks", C_Breaks), ("Clash", C_Clash), ("TooMany", C_TooMany), ("NoChange", C_NoChange), ("LastOrder", C_LastOrder)] : List (PySem.Str × Addr)) []) l.prog w K mg base := ⟨rfl, SY, z z_list, ⟨_, gg aC_LastOrder, rfl, (show ("LastOrder" : PySem.Str) ∈ (["PhraseError", "BadWord", "BadPlace", "BadTruth", "BadCount", "BadLimit", "BadOrder", "BadGroup", "BadTree", "Unlike", "BadBook", "BadNode", "BadList", "NoWord", "Taken", "BadCommand", "BadText", "NoName", "NotPhrase", "Breaks", "Clash", "TooMany", "NoChange", "LastOrder"] : List PySem.Str) by decide +kernel)⟩, iso_of hm h_cl h_ex h_one h_ty h_ct, z z_isinstance, ⟨_, gg aC_NoChange, rfl, (show ("NoChange" : PySem.Str) ∈ (["PhraseError", "BadWord", "BadPlace", "BadTruth", "BadCount", "BadLimit", "BadOrder", "BadGroup", "BadTree", "Unlike", "BadBook", "BadNode", "BadList", "NoWord", "Taken", "BadCommand", "BadText", "NoName", "NotPhrase", "Breaks", "Clash", "TooMany", "NoChange", "LastOrder"] : List PySem.Str) by decide +kernel)⟩, ⟨_, gg aC_TooMany, rfl, (show ("TooMany" : PySem.Str) ∈ (["PhraseError", "BadWord", "BadPlace", "BadTruth", "BadCount", "BadLimit", "BadOrder", "BadGroup", "BadTree", "Unlike", "BadBook", "BadNode", "BadList", "NoWord", "Taken", "BadCommand", "BadText", "NoName", "NotPhrase", "Breaks", "Clash", "TooMany", "NoChange", "LastOrder"] : List PySem.Str) by decide +kernel)⟩, ⟨_, gg aC_Clash, rfl, (show ("Clash" : PySem.Str) ∈ (["PhraseError", "BadWord", "BadPlace", "BadTruth", "BadCount", "BadLimit", "BadOrder", "BadGroup", "BadTree", "Unlike", "BadBook", "BadNode", "BadList", "NoWord", "Taken", "BadCommand", "BadText", "NoName", "NotPhrase", "Breaks", "Clash", "TooMany", "NoChange", "LastOrder"] : List PySem.Str) by decide +kernel)⟩, ⟨_, gg aC_Breaks, rfl, (show ("Breaks" : PySem.Str) ∈ (["PhraseError", "BadWord", "BadPlace", "BadTruth", "BadCount", "BadLimit", "BadOrder", "BadGroup", "BadTree", "Unlike", "BadBook", "BadNode", "BadList", "NoWord", "Taken", "BadCommand", "BadText", "NoName", "NotPhrase", "Breaks", "Clash", "TooMany", "NoChange", "LastOrder"] : List PySem.Str) by decide +kernel)⟩, ⟨_, gg aC_NotPhrase, rfl, (show ("NotPhrase" : PySem.Str) ∈ (["PhraseError", "BadWord", "BadPlace", "BadTruth", "BadCount", "BadLimit", "BadOrder", "BadGroup", "BadTree", "Unlike", "BadBook", "BadNode", "BadList", "NoWord", "Taken", "BadCommand", "BadText", "NoName", "NotPhrase", "Breaks", "Clash", "TooMany", "NoChange", "LastOrder"] : List PySem.Str) by decide +kernel)⟩, ⟨_, gg aC_BadText, rfl, (show ("BadText" : PySem.Str) ∈ (["PhraseError", "BadWord", "BadPlace", "BadTruth", "BadCount", "BadLimit", "BadOrder", "BadGroup", "BadTree", "Unlike", "BadBook", "BadNode", "BadList", "NoWord", "Taken", "BadCommand", "BadText", "NoName", "NotPhrase", "Breaks", "Clash", "TooMany", "NoChange", "LastOrder"] : List PySem.Str) by decide +kernel)⟩, ⟨_, gg aC_NoName, rfl, (show ("NoName" : PySem.Str) ∈ (["PhraseError", "BadWord", "BadPlace", "BadTruth", "BadCount", "BadLimit", "BadOrder", "BadGroup", "BadTree", "Unlike", "BadBook", "BadNode", "BadList", "NoWord", "Taken", "BadCommand", "BadText", "NoName", "NotPhrase", "Breaks", "Clash", "TooMany", "NoChange", "LastOrder"] : List PySem.Str) by decide +kernel)⟩, ⟨_, gg aC_BadCommand, rfl, (show ("BadCommand" : PySem.Str) ∈ (["PhraseError", "BadWord", "BadPlace", "BadTruth", "BadCount", "BadLimit", "BadOrder", "BadGroup", "BadTree", "Unlike", "BadBook", "BadNode", "BadList", "NoWord", "Taken", "BadCommand", "BadText", "NoName", "NotPhrase", "Breaks", "Clash", "TooMany", "NoChange", "LastOrder"] : List PySem.Str) by decide +kernel)⟩, ⟨_, gg aC_Taken, rfl, (show ("Taken" : PySem.Str) ∈ (["PhraseError", "BadWord", "BadPlace", "BadTruth", "BadCount", "BadLimit", "BadOrder", "BadGroup", "BadTree", "Unlike", "BadBook", "BadNode", "BadList", "NoWord", "Taken", "BadCommand", "BadText", "NoName", "NotPhrase", "Breaks", "Clash", "TooMany", "NoChange", "LastOrder"] : List PySem.Str) by decide +kernel)⟩, ⟨_, gg aC_NoWord, rfl, (show ("NoWord" : PySem.Str) ∈ (["PhraseError", "BadWord", "BadPlace", "BadTruth", "BadCount", "BadLimit", "BadOrder", "BadGroup", "BadTree", "Unlike", "BadBook", "BadNode", "BadList", "NoWord", "Taken", "BadCommand", "BadText", "NoName", "NotPhrase", "Breaks", "Clash", "TooMany", "NoChange", "LastOrder"] : List PySem.Str) by decide +kernel)⟩, ⟨_, gg aC_BadList, rfl, (show ("BadList" : PySem.Str) ∈ (["PhraseError", "BadWord", "BadPlace", "BadTruth", "BadCount", "BadLimit", "BadOrder", "BadGroup", "BadTree", "Unlike", "BadBook", "BadNode", "BadList", "NoWord", "Taken", "BadCommand", "BadText", "NoName", "NotPhrase", "Breaks", "Clash", "TooMany", "NoChange", "LastOrder"] : List PySem.Str) by decide +kernel)⟩, ⟨_, gg aC_BadNode, rfl, (show ("BadNode" : PySem.Str) ∈ (["PhraseError", "BadWord", "BadPlace", "BadTruth", "BadCount", "BadLimit", "BadOrder", "BadGroup", "BadTree", "Unlike", "BadBook", "BadNode", "BadList", "NoWord", "Taken", "BadCommand", "BadText", "NoName", "NotPhrase", "Breaks", "Clash", "TooMany", "NoChange", "LastOrder"] : List PySem.Str) by decide +kernel)⟩, ⟨_, gg aC_BadBook, rfl, (show ("BadBook" : PySem.Str) ∈ (["PhraseError", "BadWord", "BadPlace", "BadTruth", "BadCount", "BadLimit", "BadOrder", "BadGroup", "BadTree", "Unlike", "BadBook", "BadNode", "BadList", "NoWord", "Taken", "BadCommand", "BadText", "NoName", "NotPhrase", "Breaks", "Clash", "TooMany", "NoChange", "LastOrder"] : List PySem.Str) by decide +kernel)⟩, ⟨_, gg aC_Unlike, rfl, (show ("Unlike" : PySem.Str) ∈ (["PhraseError", "BadWord", "BadPlace", "BadTruth", "BadCount", "BadLimit", "BadOrder", "BadGroup", "BadTree", "Unlike", "BadBook", "BadNode", "BadList", "NoWord", "Taken", "BadCommand", "BadText", "NoName", "NotPhrase", "Breaks", "Clash", "TooMany", "NoChange", "LastOrder"] : List PySem.Str) by decide +kernel)⟩, ⟨_, gg aC_BadTree, rfl, (show ("BadTree" : PySem.Str) ∈ (["PhraseError", "BadWord", "BadPlace", "BadTruth", "BadCount", "BadLimit", "BadOrder", "BadGroup", "BadTree", "Unlike", "BadBook", "BadNode", "BadList", "NoWord", "Taken", "BadCommand", "BadText", "NoName", "NotPhrase", "Breaks", "Clash", "TooMany", "NoChange", "LastOrder"] : List PySem.Str) by decide +kernel)⟩, ⟨_, gg aC_BadGroup, rfl, (show ("BadGroup" : PySem.Str) ∈ (["PhraseError", "BadWord", "BadPlace", "BadTruth", "BadCount", "BadLimit", "BadOrder", "BadGroup", "BadTree", "Unlike", "BadBook", "BadNode", "BadList", "NoWord", "Taken", "BadCommand", "BadText", "NoName", "NotPhrase", "Breaks", "Clash", "TooMany", "NoChange", "LastOrder"] : List PySem.Str) by decide +kernel)⟩, ⟨_, gg aC_BadOrder, rfl, (show ("BadOrder" : PySem.Str) ∈ (["PhraseError", "BadWord", "BadPlace", "BadTruth", "BadCount", "BadLimit", "BadOrder", "BadGroup", "BadTree", "Unlike", "BadBook", "BadNode", "BadList", "NoWord", "Taken", "BadCommand", "BadText", "NoName", "NotPhrase", "Breaks", "Clash", "TooMany", "NoChange", "LastOrder"] : List PySem.Str) by decide +kernel)⟩, ⟨_, gg aC_BadLimit, rfl, (show ("BadLimit" : PySem.Str) ∈ (["PhraseError", "BadWord", "BadPlace", "BadTruth", "BadCount", "BadLimit", "BadOrder", "BadGroup", "BadTree", "Unlike", "BadBook", "BadNode", "BadList", "NoWord", "Taken", "BadCommand", "BadText", "NoName", "NotPhrase", "Breaks", "Clash", "TooMany", "NoChange", "LastOrder"] : List PySem.Str) by decide +kernel)⟩, ⟨_, gg aC_BadCount, rfl, (show ("BadCount" : PySem.Str) ∈ (["PhraseError", "BadWord", "BadPlace", "BadTruth", "BadCount", "BadLimit", "BadOrder", "BadGroup", "BadTree", "Unlike", "BadBook", "BadNode", "BadList", "NoWord", "Taken", "BadCommand", "BadText", "NoName", "NotPhrase", "Breaks", "Clash", "TooMany", "NoChange", "LastOrder"] : List PySem.Str) by decide +kernel)⟩, ⟨_, gg aC_BadTruth, rfl, (show ("BadTruth" : PySem.Str) ∈ (["PhraseError", "BadWord", "BadPlace", "BadTruth", "BadCount", "BadLimit", "BadOrder", "BadGroup", "BadTree", "Unlike", "BadBook", "BadNode", "BadList", "NoWord", "Taken", "BadCommand", "BadText", "NoName", "NotPhrase", "Breaks", "Clash", "TooMany", "NoChange", "LastOrder"] : List PySem.Str) by decide +kernel)⟩, ⟨_, gg aC_BadPlace, rfl, (show ("BadPlace" : PySem.Str) ∈ (["PhraseError", "BadWord", "BadPlace", "BadTruth", "BadCount", "BadLimit", "BadOrder", "BadGroup", "BadTree", "Unlike", "BadBook", "BadNode", "BadList", "NoWord", "Taken", "BadCommand", "BadText", "NoName", "NotPhrase", "Breaks", "Clash", "TooMany", "NoChange", "LastOrder"] : List PySem.Str) by decide +kernel)⟩, ⟨_, gg aC_BadWord, rfl, (show ("BadWord" : PySem.Str) ∈ (["PhraseError", "BadWord", "BadPlace", "BadTruth", "BadCount", "BadLimit", "BadOrder", "BadGroup", "BadTree", "Unlike", "BadBook", "BadNode", "BadList", "NoWord", "Taken", "BadCommand", "BadText", "NoName", "NotPhrase", "Breaks", "Clash", "TooMany", "NoChange", "LastOrder"] : List PySem.Str) by decide +kernel)⟩, ⟨⟨_, E_TooMany, rfl, (show ("TooMany" : PySem.Str) ∈ (["PhraseError", "BadWord", "BadPlace", "BadTruth", "BadCount", "BadLimit", "BadOrder", "BadGroup", "BadTree", "Unlike", "BadBook", "BadNode", "BadList", "NoWord", "Taken", "BadCommand", "BadText", "NoName", "NotPhrase", "Breaks", "Clash", "TooMany", "NoChange", "LastOrder"] : List PySem.Str) by decide +kernel)⟩⟩, ⟨⟨_, ⟨g aC_LastOrder, z0_LastOrder, zk_LastOrder, ze_LastOrder, zt_LastOrder⟩, rfl, (show ("LastOrder" : PySem.Str) ∈ (["PhraseError", "BadWord", "BadPlace", "BadTruth", "BadCount", "BadLimit", "BadOrder", "BadGroup", "BadTree", "Unlike", "BadBook", "BadNode", "BadList", "NoWord", "Taken", "BadCommand", "BadText", "NoName", "NotPhrase", "Breaks", "Clash", "TooMany", "NoChange", "LastOrder"] : List PySem.Str) by decide +kernel)⟩⟩, ⟨⟨_, ⟨g aC_NoChange, z0_NoChange, zk_NoChange, ze_NoChange, zt_NoChange⟩, rfl, (show ("NoChange" : PySem.Str) ∈ (["PhraseError", "BadWord", "BadPlace", "BadTruth", "BadCount", "BadLimit", "BadOrder", "BadGroup", "BadTree", "Unlike", "BadBook", "BadNode", "BadList", "NoWord", "Taken", "BadCommand", "BadText", "NoName", "NotPhrase", "Breaks", "Clash", "TooMany", "NoChange", "LastOrder"] : List PySem.Str) by decide +kernel)⟩⟩, ⟨_, gg aC_PhraseError, sub_of hm hs_PhraseError⟩, z z_int, z z_abs, z z_len, ⟨⟨_, E_NoName, rfl, (show ("NoName" : PySem.Str) ∈ (["PhraseError", "BadWord", "BadPlace", "BadTruth", "BadCount", "BadLimit", "BadOrder", "BadGroup", "BadTree", "Unlike", "BadBook", "BadNode", "BadList", "NoWord", "Taken", "BadCommand", "BadText", "NoName", "NotPhrase", "Breaks", "Clash", "TooMany", "NoChange", "LastOrder"] : List PySem.Str) by decide +kernel)⟩⟩, ⟨⟨_, E_BadCommand, rfl, (show ("BadCommand" : PySem.Str) ∈ (["PhraseError", "BadWord", "BadPlace", "BadTruth", "BadCount", "BadLimit", "BadOrder", "BadGroup", "BadTree", "Unlike", "BadBook", "BadNode", "BadList", "NoWord", "Taken", "BadCommand", "BadText", "NoName", "NotPhrase", "Breaks", "Clash", "TooMany", "NoChange", "LastOrder"] : List PySem.Str) by decide +kernel)⟩⟩, ⟨⟨_, E_Taken, rfl, (show ("Taken" : PySem.Str) ∈ (["PhraseError", "BadWord", "BadPlace", "BadTruth", "BadCount", "BadLimit", "BadOrder", "BadGroup", "BadTree", "Unlike", "BadBook", "BadNode", "BadList", "NoWord", "Taken", "BadCommand", "BadText", "NoName", "NotPhrase", "Breaks", "Clash", "TooMany", "NoChange", "LastOrder"] : List PySem.Str) by decide +kernel)⟩⟩, ⟨⟨_, E_NoWord, rfl, (show ("NoWord" : PySem.Str) ∈ (["PhraseError", "BadWord", "BadPlace", "BadTruth", "BadCount", "BadLimit", "BadOrder", "BadGroup", "BadTree", "Unlike", "BadBook", "BadNode", "BadList", "NoWord", "Taken", "BadCommand", "BadText", "NoName", "NotPhrase", "Breaks", "Clash", "TooMany", "NoChange", "LastOrder"] : List PySem.Str) by decide +kernel)⟩⟩, ⟨⟨_, E_BadList, rfl, (show ("BadList" : PySem.Str) ∈ (["PhraseError", "BadWord", "BadPlace", "BadTruth", "BadCount", "BadLimit", "BadOrder", "BadGroup", "BadTree", "Unlike", "BadBook", "BadNode", "BadList", "NoWord", "Taken", "BadCommand", "BadText", "NoName", "NotPhrase", "Breaks", "Clash", "TooMany", "NoChange", "LastOrder"] : List PySem.Str) by decide +kernel)⟩⟩, ⟨⟨_, E_BadNode, rfl, (show ("BadNode" : PySem.Str) ∈ (["PhraseError", "BadWord", "BadPlace", "BadTruth", "BadCount", "BadLimit", "BadOrder", "BadGroup", "BadTree", "Unlike", "BadBook", "BadNode", "BadList", "NoWord", "Taken", "BadCommand", "BadText", "NoName", "NotPhrase", "Breaks", "Clash", "TooMany", "NoChange", "LastOrder"] : List PySem.Str) by decide +kernel)⟩⟩, ⟨⟨_, E_BadBook, rfl, (show ("BadBook" : PySem.Str) ∈ (["PhraseError", "BadWord", "BadPlace", "BadTruth", "BadCount", "BadLimit", "BadOrder", "BadGroup", "BadTree", "Unlike", "BadBook", "BadNode", "BadList", "NoWord", "Taken", "BadCommand", "BadText", "NoName", "NotPhrase", "Breaks", "Clash", "TooMany", "NoChange", "LastOrder"] : List PySem.Str) by decide +kernel)⟩⟩, ⟨⟨_, E_Unlike, rfl, (show ("Unlike" : PySem.Str) ∈ (["PhraseError", "BadWord", "BadPlace", "BadTruth", "BadCount", "BadLimit", "BadOrder", "BadGroup", "BadTree", "Unlike", "BadBook", "BadNode", "BadList", "NoWord", "Taken", "BadCommand", "BadText", "NoName", "NotPhrase", "Breaks", "Clash", "TooMany", "NoChange", "LastOrder"] : List PySem.Str) by decide +kernel)⟩⟩, ⟨⟨_, E_BadTree, rfl, (show ("BadTree" : PySem.Str) ∈ (["PhraseError", "BadWord", "BadPlace", "BadTruth", "BadCount", "BadLimit", "BadOrder", "BadGroup", "BadTree", "Unlike", "BadBook", "BadNode", "BadList", "NoWord", "Taken", "BadCommand", "BadText", "NoName", "NotPhrase", "Breaks", "Clash", "TooMany", "NoChange", "LastOrder"] : List PySem.Str) by decide +kernel)⟩⟩, ⟨⟨_, E_BadGroup, rfl, (show ("BadGroup" : PySem.Str) ∈ (["PhraseError", "BadWord", "BadPlace", "BadTruth", "BadCount", "BadLimit", "BadOrder", "BadGroup", "BadTree", "Unlike", "BadBook", "BadNode", "BadList", "NoWord", "Taken", "BadCommand", "BadText", "NoName", "NotPhrase", "Breaks", "Clash", "TooMany", "NoChange", "LastOrder"] : List PySem.Str) by decide +kernel)⟩⟩, ⟨⟨_, E_BadOrder, rfl, (show ("BadOrder" : PySem.Str) ∈ (["PhraseError", "BadWord", "BadPlace", "BadTruth", "BadCount", "BadLimit", "BadOrder", "BadGroup", "BadTree", "Unlike", "BadBook", "BadNode", "BadList", "NoWord", "Taken", "BadCommand", "BadText", "NoName", "NotPhrase", "Breaks", "Clash", "TooMany", "NoChange", "LastOrder"] : List PySem.Str) by decide +kernel)⟩⟩, ⟨⟨_, E_BadLimit, rfl, (show ("BadLimit" : PySem.Str) ∈ (["PhraseError", "BadWord", "BadPlace", "BadTruth", "BadCount", "BadLimit", "BadOrder", "BadGroup", "BadTree", "Unlike", "BadBook", "BadNode", "BadList", "NoWord", "Taken", "BadCommand", "BadText", "NoName", "NotPhrase", "Breaks", "Clash", "TooMany", "NoChange", "LastOrder"] : List PySem.Str) by decide +kernel)⟩⟩, ⟨⟨_, E_BadCount, rfl, (show ("BadCount" : PySem.Str) ∈ (["PhraseError", "BadWord", "BadPlace", "BadTruth", "BadCount", "BadLimit", "BadOrder", "BadGroup", "BadTree", "Unlike", "BadBook", "BadNode", "BadList", "NoWord", "Taken", "BadCommand", "BadText", "NoName", "NotPhrase", "Breaks", "Clash", "TooMany", "NoChange", "LastOrder"] : List PySem.Str) by decide +kernel)⟩⟩, ⟨⟨_, E_BadTruth, rfl, (show ("BadTruth" : PySem.Str) ∈ (["PhraseError", "BadWord", "BadPlace", "BadTruth", "BadCount", "BadLimit", "BadOrder", "BadGroup", "BadTree", "Unlike", "BadBook", "BadNode", "BadList", "NoWord", "Taken", "BadCommand", "BadText", "NoName", "NotPhrase", "Breaks", "Clash", "TooMany", "NoChange", "LastOrder"] : List PySem.Str) by decide +kernel)⟩⟩, ⟨⟨_, E_BadPlace, rfl, (show ("BadPlace" : PySem.Str) ∈ (["PhraseError", "BadWord", "BadPlace", "BadTruth", "BadCount", "BadLimit", "BadOrder", "BadGroup", "BadTree", "Unlike", "BadBook", "BadNode", "BadList", "NoWord", "Taken", "BadCommand", "BadText", "NoName", "NotPhrase", "Breaks", "Clash", "TooMany", "NoChange", "LastOrder"] : List PySem.Str) by decide +kernel)⟩⟩, ⟨⟨_, E_BadWord, rfl, (show ("BadWord" : PySem.Str) ∈ (["PhraseError", "BadWord", "BadPlace", "BadTruth", "BadCount", "BadLimit", "BadOrder", "BadGroup", "BadTree", "Unlike", "BadBook", "BadNode", "BadList", "NoWord", "Taken", "BadCommand", "BadText", "NoName", "NotPhrase", "Breaks", "Clash", "TooMany", "NoChange", "LastOrder"] : List PySem.Str) by decide +kernel)⟩⟩, ⟨⟨_, EN_NoName, rfl, (show ("NoName" : PySem.Str) ∈ (["PhraseError", "BadWord", "BadPlace", "BadTruth", "BadCount", "BadLimit", "BadOrder", "BadGroup", "BadTree", "Unlike", "BadBook", "BadNode", "BadList", "NoWord", "Taken", "BadCommand", "BadText", "NoName", "NotPhrase", "Breaks", "Clash", "TooMany", "NoChange", "LastOrder"] : List PySem.Str) by decide +kernel)⟩⟩, ⟨⟨_, EN_BadCommand, rfl, (show ("BadCommand" : PySem.Str) ∈ (["PhraseError", "BadWord", "BadPlace", "BadTruth", "BadCount", "BadLimit", "BadOrder", "BadGroup", "BadTree", "Unlike", "BadBook", "BadNode", "BadList", "NoWord", "Taken", "BadCommand", "BadText", "NoName", "NotPhrase", "Breaks", "Clash", "TooMany", "NoChange", "LastOrder"] : List PySem.Str) by decide +kernel)⟩⟩, ⟨⟨_, EN_Taken, rfl, (show ("Taken" : PySem.Str) ∈ (["PhraseError", "BadWord", "BadPlace", "BadTruth", "BadCount", "BadLimit", "BadOrder", "BadGroup", "BadTree", "Unlike", "BadBook", "BadNode", "BadList", "NoWord", "Taken", "BadCommand", "BadText", "NoName", "NotPhrase", "Breaks", "Clash", "TooMany", "NoChange", "LastOrder"] : List PySem.Str) by decide +kernel)⟩⟩, ⟨⟨_, EN_NoWord, rfl, (show ("NoWord" : PySem.Str) ∈ (["PhraseError", "BadWord", "BadPlace", "BadTruth", "BadCount", "BadLimit", "BadOrder", "BadGroup", "BadTree", "Unlike", "BadBook", "BadNode", "BadList", "NoWord", "Taken", "BadCommand", "BadText", "NoName", "NotPhrase", "Breaks", "Clash", "TooMany", "NoChange", "LastOrder"] : List PySem.Str) by decide +kernel)⟩⟩, ⟨⟨_, EN_BadList, rfl, (show ("BadList" : PySem.Str) ∈ (["PhraseError", "BadWord", "BadPlace", "BadTruth", "BadCount", "BadLimit", "BadOrder", "BadGroup", "BadTree", "Unlike", "BadBook", "BadNode", "BadList", "NoWord", "Taken", "BadCommand", "BadText", "NoName", "NotPhrase", "Breaks", "Clash", "TooMany", "NoChange", "LastOrder"] : List PySem.Str) by decide +kernel)⟩⟩, ⟨⟨_, EN_BadNode, rfl, (show ("BadNode" : PySem.Str) ∈ (["PhraseError", "BadWord", "BadPlace", "BadTruth", "BadCount", "BadLimit", "BadOrder", "BadGroup", "BadTree", "Unlike", "BadBook", "BadNode", "BadList", "NoWord", "Taken", "BadCommand", "BadText", "NoName", "NotPhrase", "Breaks", "Clash", "TooMany", "NoChange", "LastOrder"] : List PySem.Str) by decide +kernel)⟩⟩, ⟨⟨_, EN_BadBook, rfl, (show ("BadBook" : PySem.Str) ∈ (["PhraseError", "BadWord", "BadPlace", "BadTruth", "BadCount", "BadLimit", "BadOrder", "BadGroup", "BadTree", "Unlike", "BadBook", "BadNode", "BadList", "NoWord", "Taken", "BadCommand", "BadText", "NoName", "NotPhrase", "Breaks", "Clash", "TooMany", "NoChange", "LastOrder"] : List PySem.Str) by decide +kernel)⟩⟩, ⟨⟨_, EN_Unlike, rfl, (show ("Unlike" : PySem.Str) ∈ (["PhraseError", "BadWord", "BadPlace", "BadTruth", "BadCount", "BadLimit", "BadOrder", "BadGroup", "BadTree", "Unlike", "BadBook", "BadNode", "BadList", "NoWord", "Taken", "BadCommand", "BadText", "NoName", "NotPhrase", "Breaks", "Clash", "TooMany", "NoChange", "LastOrder"] : List PySem.Str) by decide +kernel)⟩⟩, ⟨⟨_, EN_BadTree, rfl, (show ("BadTree" : PySem.Str) ∈ (["PhraseError", "BadWord", "BadPlace", "BadTruth", "BadCount", "BadLimit", "BadOrder", "BadGroup", "BadTree", "Unlike", "BadBook", "BadNode", "BadList", "NoWord", "Taken", "BadCommand", "BadText", "NoName", "NotPhrase", "Breaks", "Clash", "TooMany", "NoChange", "LastOrder"] : List PySem.Str) by decide +kernel)⟩⟩, ⟨⟨_, EN_BadGroup, rfl, (show ("BadGroup" : PySem.Str) ∈ (["PhraseError", "BadWord", "BadPlace", "BadTruth", "BadCount", "BadLimit", "BadOrder", "BadGroup", "BadTree", "Unlike", "BadBook", "BadNode", "BadList", "NoWord", "Taken", "BadCommand", "BadText", "NoName", "NotPhrase", "Breaks", "Clash", "TooMany", "NoChange", "LastOrder"] : List PySem.Str) by decide +kernel)⟩⟩, ⟨⟨_, EN_BadOrder, rfl, (show ("BadOrder" : PySem.Str) ∈ (["PhraseError", "BadWord", "BadPlace", "BadTruth", "BadCount", "BadLimit", "BadOrder", "BadGroup", "BadTree", "Unlike", "BadBook", "BadNode", "BadList", "NoWord", "Taken", "BadCommand", "BadText", "NoName", "NotPhrase", "Breaks", "Clash", "TooMany", "NoChange", "LastOrder"] : List PySem.Str) by decide +kernel)⟩⟩, ⟨⟨_, EN_BadLimit, rfl, (show ("BadLimit" : PySem.Str) ∈ (["PhraseError", "BadWord", "BadPlace", "BadTruth", "BadCount", "BadLimit", "BadOrder", "BadGroup", "BadTree", "Unlike", "BadBook", "BadNode", "BadList", "NoWord", "Taken", "BadCommand", "BadText", "NoName", "NotPhrase", "Breaks", "Clash", "TooMany", "NoChange", "LastOrder"] : List PySem.Str) by decide +kernel)⟩⟩, ⟨⟨_, EN_BadCount, rfl, (show ("BadCount" : PySem.Str) ∈ (["PhraseError", "BadWord", "BadPlace", "BadTruth", "BadCount", "BadLimit", "BadOrder", "BadGroup", "BadTree", "Unlike", "BadBook", "BadNode", "BadList", "NoWord", "Taken", "BadCommand", "BadText", "NoName", "NotPhrase", "Breaks", "Clash", "TooMany", "NoChange", "LastOrder"] : List PySem.Str) by decide +kernel)⟩⟩, ⟨⟨_, EN_BadTruth, rfl, (show ("BadTruth" : PySem.Str) ∈ (["PhraseError", "BadWord", "BadPlace", "BadTruth", "BadCount", "BadLimit", "BadOrder", "BadGroup", "BadTree", "Unlike", "BadBook", "BadNode", "BadList", "NoWord", "Taken", "BadCommand", "BadText", "NoName", "NotPhrase", "Breaks", "Clash", "TooMany", "NoChange", "LastOrder"] : List PySem.Str) by decide +kernel)⟩⟩, ⟨⟨_, EN_BadPlace, rfl, (show ("BadPlace" : PySem.Str) ∈ (["PhraseError", "BadWord", "BadPlace", "BadTruth", "BadCount", "BadLimit", "BadOrder", "BadGroup", "BadTree", "Unlike", "BadBook", "BadNode", "BadList", "NoWord", "Taken", "BadCommand", "BadText", "NoName", "NotPhrase", "Breaks", "Clash", "TooMany", "NoChange", "LastOrder"] : List PySem.Str) by decide +kernel)⟩⟩, ⟨⟨_, EN_BadWord, rfl, (show ("BadWord" : PySem.Str) ∈ (["PhraseError", "BadWord", "BadPlace", "BadTruth", "BadCount", "BadLimit", "BadOrder", "BadGroup", "BadTree", "Unlike", "BadBook", "BadNode", "BadList", "NoWord", "Taken", "BadCommand", "BadText", "NoName", "NotPhrase", "Breaks", "Clash", "TooMany", "NoChange", "LastOrder"] : List PySem.Str) by decide +kernel)⟩⟩, ⟨⟨_, E_Clash, rfl, (show ("Clash" : PySem.Str) ∈ (["PhraseError", "BadWord", "BadPlace", "BadTruth", "BadCount", "BadLimit", "BadOrder", "BadGroup", "BadTree", "Unlike", "BadBook", "BadNode", "BadList", "NoWord", "Taken", "BadCommand", "BadText", "NoName", "NotPhrase", "Breaks", "Clash", "TooMany", "NoChange", "LastOrder"] : List PySem.Str) by decide +kernel)⟩⟩, ⟨⟨_, E_Breaks, rfl, (show ("Breaks" : PySem.Str) ∈ (["PhraseError", "BadWord", "BadPlace", "BadTruth", "BadCount", "BadLimit", "BadOrder", "BadGroup", "BadTree", "Unlike", "BadBook", "BadNode", "BadList", "NoWord", "Taken", "BadCommand", "BadText", "NoName", "NotPhrase", "Breaks", "Clash", "TooMany", "NoChange", "LastOrder"] : List PySem.Str) by decide +kernel)⟩⟩, ⟨⟨_, E_NotPhrase, rfl, (show ("NotPhrase" : PySem.Str) ∈ (["PhraseError", "BadWord", "BadPlace", "BadTruth", "BadCount", "BadLimit", "BadOrder", "BadGroup", "BadTree", "Unlike", "BadBook", "BadNode", "BadList", "NoWord", "Taken", "BadCommand", "BadText", "NoName", "NotPhrase", "Breaks", "Clash", "TooMany", "NoChange", "LastOrder"] : List PySem.Str) by decide +kernel)⟩⟩, ⟨⟨_, E_BadText, rfl, (show ("BadText" : PySem.Str) ∈ (["PhraseError", "BadWord", "BadPlace", "BadTruth", "BadCount", "BadLimit", "BadOrder", "BadGroup", "BadTree", "Unlike", "BadBook", "BadNode", "BadList", "NoWord", "Taken", "BadCommand", "BadText", "NoName", "NotPhrase", "Breaks", "Clash", "TooMany", "NoChange", "LastOrder"] : List PySem.Str) by decide +kernel)⟩⟩, ⟨⟨_, EN_TooMany, rfl, (show ("TooMany" : PySem.Str) ∈ (["PhraseError", "BadWord", "BadPlace", "BadTruth", "BadCount", "BadLimit", "BadOrder", "BadGroup", "BadTree", "Unlike", "BadBook", "BadNode", "BadList", "NoWord", "Taken", "BadCommand", "BadText", "NoName", "NotPhrase", "Breaks", "Clash", "TooMany", "NoChange", "LastOrder"] : List PySem.Str) by decide +kernel)⟩⟩, ⟨⟨_, EN_Clash, rfl, (show ("Clash" : PySem.Str) ∈ (["PhraseError", "BadWord", "BadPlace", "BadTruth", "BadCount", "BadLimit", "BadOrder", "BadGroup", "BadTree", "Unlike", "BadBook", "BadNode", "BadList", "NoWord", "Taken", "BadCommand", "BadText", "NoName", "NotPhrase", "Breaks", "Clash", "TooMany", "NoChange", "LastOrder"] : List PySem.Str) by decide +kernel)⟩⟩, ⟨⟨_, EN_Breaks, rfl, (show ("Breaks" : PySem.Str) ∈ (["PhraseError", "BadWord", "BadPlace", "BadTruth", "BadCount", "BadLimit", "BadOrder", "BadGroup", "BadTree", "Unlike", "BadBook", "BadNode", "BadList", "NoWord", "Taken", "BadCommand", "BadText", "NoName", "NotPhrase", "Breaks", "Clash", "TooMany", "NoChange", "LastOrder"] : List PySem.Str) by decide +kernel)⟩⟩, ⟨⟨_, EN_NotPhrase, rfl, (show ("NotPhrase" : PySem.Str) ∈ (["PhraseError", "BadWord", "BadPlace", "BadTruth", "BadCount", "BadLimit", "BadOrder", "BadGroup", "BadTree", "Unlike", "BadBook", "BadNode", "BadList", "NoWord", "Taken", "BadCommand", "BadText", "NoName", "NotPhrase", "Breaks", "Clash", "TooMany", "NoChange", "LastOrder"] : List PySem.Str) by decide +kernel)⟩⟩, ⟨⟨_, EN_BadText, rfl, (show ("BadText" : PySem.Str) ∈ (["PhraseError", "BadWord", "BadPlace", "BadTruth", "BadCount", "BadLimit", "BadOrder", "BadGroup", "BadTree", "Unlike", "BadBook", "BadNode", "BadList", "NoWord", "Taken", "BadCommand", "BadText", "NoName", "NotPhrase", "Breaks", "Clash", "TooMany", "NoChange", "LastOrder"] : List PySem.Str) by decide +kernel)⟩⟩, xfd_of hm h_ex hx_name, xfd_of hm h_ex hx_word, xfd_of hm h_ex hx_at, xfd_of hm h_ex hx_part, xfd_of hm h_ex hx_value, xfd_of hm h_ex hx_most, xfd_of hm h_ex hx_what, xfd_of hm h_ex hx_chain, xfd_of hm h_ex hx_run, xfd_of hm h_ex hx_pull, xfd_of hm h_ex hx_group, xfd_of hm h_ex hx_line, z z_range, z z_repr, z z_enumerate, z z_ValueError, ve_of hm h_ex h_ve, ⟨_, gg aC_PhraseError, rfl, (show ("PhraseError" : PySem.Str) ∈ (["PhraseError", "BadWord", "BadPlace", "BadTruth", "BadCount", "BadLimit", "BadOrder", "BadGroup", "BadTree", "Unlike", "BadBook", "BadNode", "BadList", "NoWord", "Taken", "BadCommand", "BadText", "NoName", "NotPhrase", "Breaks", "Clash", "TooMany", "NoChange", "LastOrder"] : List PySem.Str) by decide +kernel)⟩⟩
  have P_pen : GFn (cnOf K mg ([] : List (PySem.Str × Addr)) ([("PhraseError", C_PhraseError), ("BadWord", C_BadWord), ("BadPlace", C_BadPlace), ("BadTruth", C_BadTruth), ("BadCount", C_BadCount), ("BadLimit", C_BadLimit), ("BadOrder", C_BadOrder), ("BadGroup", C_BadGroup), ("BadTree", C_BadTree), ("Unlike", C_Unlike), ("BadBook", C_BadBook), ("BadNode", C_BadNode), ("BadList", C_BadList), ("NoWord", C_NoWord), ("Taken", C_Taken), ("BadCommand", C_BadCommand), ("BadText", C_BadText), ("NoName", C_NoName), ("NotPhrase", C_NotPhrase), ("Breaks", C_Breaks), ("Clash", C_Clash), ("TooMany", C_TooMany), ("NoChange", C_NoChange), ("LastOrder", C_LastOrder)] : List (PySem.Str × Addr)) []) l.prog w K mg base 1 "_law_pen" F_pen := ⟨⟨f_pen, g a_pen, k_pen, d_pen U_pen T  b_pen⟩⟩
  have PQ_kinds : GFnQ (cnOf K mg ([] : List (PySem.Str × Addr)) ([("PhraseError", C_PhraseError), ("BadWord", C_BadWord), ("BadPlace", C_BadPlace), ("BadTruth", C_BadTruth), ("BadCount", C_BadCount), ("BadLimit", C_BadLimit), ("BadOrder", C_BadOrder), ("BadGroup", C_BadGroup), ("BadTree", C_BadTree), ("Unlike", C_Unlike), ("BadBook", C_BadBook), ("BadNode", C_BadNode), ("BadList", C_BadList), ("NoWord", C_NoWord), ("Taken", C_Taken), ("BadCommand", C_BadCommand), ("BadText", C_BadText), ("NoName", C_NoName), ("NotPhrase", C_NotPhrase), ("Breaks", C_Breaks), ("Clash", C_Clash), ("TooMany", C_TooMany), ("NoChange", C_NoChange), ("LastOrder", C_LastOrder)] : List (PySem.Str × Addr)) []) l.prog w K mg base "_law_kinds" F_kinds := ⟨⟨f_kinds, g a_kinds, k_kinds, dq_kinds U_kinds T b_kinds⟩⟩
  have P_kinds : GFn (cnOf K mg ([] : List (PySem.Str × Addr)) ([("PhraseError", C_PhraseError), ("BadWord", C_BadWord), ("BadPlace", C_BadPlace), ("BadTruth", C_BadTruth), ("BadCount", C_BadCount), ("BadLimit", C_BadLimit), ("BadOrder", C_BadOrder), ("BadGroup", C_BadGroup), ("BadTree", C_BadTree), ("Unlike", C_Unlike), ("BadBook", C_BadBook), ("BadNode", C_BadNode), ("BadList", C_BadList), ("NoWord", C_NoWord), ("Taken", C_Taken), ("BadCommand", C_BadCommand), ("BadText", C_BadText), ("NoName", C_NoName), ("NotPhrase", C_NotPhrase), ("Breaks", C_Breaks), ("Clash", C_Clash), ("TooMany", C_TooMany), ("NoChange", C_NoChange), ("LastOrder", C_LastOrder)] : List (PySem.Str × Addr)) []) l.prog w K mg base 1 "_law_kinds" F_kinds := ⟨⟨f_kinds, g a_kinds, k_kinds, d_kinds U_kinds T  b_kinds⟩⟩
  have P_caught : GFn (cnOf K mg ([] : List (PySem.Str × Addr)) ([("PhraseError", C_PhraseError), ("BadWord", C_BadWord), ("BadPlace", C_BadPlace), ("BadTruth", C_BadTruth), ("BadCount", C_BadCount), ("BadLimit", C_BadLimit), ("BadOrder", C_BadOrder), ("BadGroup", C_BadGroup), ("BadTree", C_BadTree), ("Unlike", C_Unlike), ("BadBook", C_BadBook), ("BadNode", C_BadNode), ("BadList", C_BadList), ("NoWord", C_NoWord), ("Taken", C_Taken), ("BadCommand", C_BadCommand), ("BadText", C_BadText), ("NoName", C_NoName), ("NotPhrase", C_NotPhrase), ("Breaks", C_Breaks), ("Clash", C_Clash), ("TooMany", C_TooMany), ("NoChange", C_NoChange), ("LastOrder", C_LastOrder)] : List (PySem.Str × Addr)) []) l.prog w K mg base 2 "_law_caught" F_caught := ⟨⟨f_caught, g a_caught, k_caught, d_caught U_caught T PQ_kinds b_caught⟩⟩
  have P_draw : GFn (cnOf K mg ([] : List (PySem.Str × Addr)) ([("PhraseError", C_PhraseError), ("BadWord", C_BadWord), ("BadPlace", C_BadPlace), ("BadTruth", C_BadTruth), ("BadCount", C_BadCount), ("BadLimit", C_BadLimit), ("BadOrder", C_BadOrder), ("BadGroup", C_BadGroup), ("BadTree", C_BadTree), ("Unlike", C_Unlike), ("BadBook", C_BadBook), ("BadNode", C_BadNode), ("BadList", C_BadList), ("NoWord", C_NoWord), ("Taken", C_Taken), ("BadCommand", C_BadCommand), ("BadText", C_BadText), ("NoName", C_NoName), ("NotPhrase", C_NotPhrase), ("Breaks", C_Breaks), ("Clash", C_Clash), ("TooMany", C_TooMany), ("NoChange", C_NoChange), ("LastOrder", C_LastOrder)] : List (PySem.Str × Addr)) []) l.prog w K mg base 1 "_law_draw" F_draw := ⟨⟨f_draw, g a_draw, k_draw, d_draw U_draw T  b_draw⟩⟩
  have P_pick : GFn (cnOf K mg ([] : List (PySem.Str × Addr)) ([("PhraseError", C_PhraseError), ("BadWord", C_BadWord), ("BadPlace", C_BadPlace), ("BadTruth", C_BadTruth), ("BadCount", C_BadCount), ("BadLimit", C_BadLimit), ("BadOrder", C_BadOrder), ("BadGroup", C_BadGroup), ("BadTree", C_BadTree), ("Unlike", C_Unlike), ("BadBook", C_BadBook), ("BadNode", C_BadNode), ("BadList", C_BadList), ("NoWord", C_NoWord), ("Taken", C_Taken), ("BadCommand", C_BadCommand), ("BadText", C_BadText), ("NoName", C_NoName), ("NotPhrase", C_NotPhrase), ("Breaks", C_Breaks), ("Clash", C_Clash), ("TooMany", C_TooMany), ("NoChange", C_NoChange), ("LastOrder", C_LastOrder)] : List (PySem.Str × Addr)) []) l.prog w K mg base 2 "_law_pick" F_pick := ⟨⟨f_pick, g a_pick, k_pick, d_pick U_pick T P_draw b_pick⟩⟩
  have P_value : GFn (cnOf K mg ([] : List (PySem.Str × Addr)) ([("PhraseError", C_PhraseError), ("BadWord", C_BadWord), ("BadPlace", C_BadPlace), ("BadTruth", C_BadTruth), ("BadCount", C_BadCount), ("BadLimit", C_BadLimit), ("BadOrder", C_BadOrder), ("BadGroup", C_BadGroup), ("BadTree", C_BadTree), ("Unlike", C_Unlike), ("BadBook", C_BadBook), ("BadNode", C_BadNode), ("BadList", C_BadList), ("NoWord", C_NoWord), ("Taken", C_Taken), ("BadCommand", C_BadCommand), ("BadText", C_BadText), ("NoName", C_NoName), ("NotPhrase", C_NotPhrase), ("Breaks", C_Breaks), ("Clash", C_Clash), ("TooMany", C_TooMany), ("NoChange", C_NoChange), ("LastOrder", C_LastOrder)] : List (PySem.Str × Addr)) []) l.prog w K mg base 3 "_law_value" F_value := ⟨⟨f_value, g a_value, k_value, d_value U_value T P_pick b_value⟩⟩
  have P_singles : GFn (cnOf K mg ([] : List (PySem.Str × Addr)) ([("PhraseError", C_PhraseError), ("BadWord", C_BadWord), ("BadPlace", C_BadPlace), ("BadTruth", C_BadTruth), ("BadCount", C_BadCount), ("BadLimit", C_BadLimit), ("BadOrder", C_BadOrder), ("BadGroup", C_BadGroup), ("BadTree", C_BadTree), ("Unlike", C_Unlike), ("BadBook", C_BadBook), ("BadNode", C_BadNode), ("BadList", C_BadList), ("NoWord", C_NoWord), ("Taken", C_Taken), ("BadCommand", C_BadCommand), ("BadText", C_BadText), ("NoName", C_NoName), ("NotPhrase", C_NotPhrase), ("Breaks", C_Breaks), ("Clash", C_Clash), ("TooMany", C_TooMany), ("NoChange", C_NoChange), ("LastOrder", C_LastOrder)] : List (PySem.Str × Addr)) []) l.prog w K mg base 1 "_law_singles" F_singles := ⟨⟨f_singles, g a_singles, k_singles, d_singles U_singles T  b_singles⟩⟩
  have P_doubles : GFn (cnOf K mg ([] : List (PySem.Str × Addr)) ([("PhraseError", C_PhraseError), ("BadWord", C_BadWord), ("BadPlace", C_BadPlace), ("BadTruth", C_BadTruth), ("BadCount", C_BadCount), ("BadLimit", C_BadLimit), ("BadOrder", C_BadOrder), ("BadGroup", C_BadGroup), ("BadTree", C_BadTree), ("Unlike", C_Unlike), ("BadBook", C_BadBook), ("BadNode", C_BadNode), ("BadList", C_BadList), ("NoWord", C_NoWord), ("Taken", C_Taken), ("BadCommand", C_BadCommand), ("BadText", C_BadText), ("NoName", C_NoName), ("NotPhrase", C_NotPhrase), ("Breaks", C_Breaks), ("Clash", C_Clash), ("TooMany", C_TooMany), ("NoChange", C_NoChange), ("LastOrder", C_LastOrder)] : List (PySem.Str × Addr)) []) l.prog w K mg base 1 "_law_doubles" F_doubles := ⟨⟨f_doubles, g a_doubles, k_doubles, d_doubles U_doubles T  b_doubles⟩⟩
  have P_single_fields : GFn (cnOf K mg ([] : List (PySem.Str × Addr)) ([("PhraseError", C_PhraseError), ("BadWord", C_BadWord), ("BadPlace", C_BadPlace), ("BadTruth", C_BadTruth), ("BadCount", C_BadCount), ("BadLimit", C_BadLimit), ("BadOrder", C_BadOrder), ("BadGroup", C_BadGroup), ("BadTree", C_BadTree), ("Unlike", C_Unlike), ("BadBook", C_BadBook), ("BadNode", C_BadNode), ("BadList", C_BadList), ("NoWord", C_NoWord), ("Taken", C_Taken), ("BadCommand", C_BadCommand), ("BadText", C_BadText), ("NoName", C_NoName), ("NotPhrase", C_NotPhrase), ("Breaks", C_Breaks), ("Clash", C_Clash), ("TooMany", C_TooMany), ("NoChange", C_NoChange), ("LastOrder", C_LastOrder)] : List (PySem.Str × Addr)) []) l.prog w K mg base 1 "_law_single_fields" F_single_fields := ⟨⟨f_single_fields, g a_single_fields, k_single_fields, d_single_fields U_single_fields T  b_single_fields⟩⟩
  have P_double_fields : GFn (cnOf K mg ([] : List (PySem.Str × Addr)) ([("PhraseError", C_PhraseError), ("BadWord", C_BadWord), ("BadPlace", C_BadPlace), ("BadTruth", C_BadTruth), ("BadCount", C_BadCount), ("BadLimit", C_BadLimit), ("BadOrder", C_BadOrder), ("BadGroup", C_BadGroup), ("BadTree", C_BadTree), ("Unlike", C_Unlike), ("BadBook", C_BadBook), ("BadNode", C_BadNode), ("BadList", C_BadList), ("NoWord", C_NoWord), ("Taken", C_Taken), ("BadCommand", C_BadCommand), ("BadText", C_BadText), ("NoName", C_NoName), ("NotPhrase", C_NotPhrase), ("Breaks", C_Breaks), ("Clash", C_Clash), ("TooMany", C_TooMany), ("NoChange", C_NoChange), ("LastOrder", C_LastOrder)] : List (PySem.Str × Addr)) []) l.prog w K mg base 1 "_law_double_fields" F_double_fields := ⟨⟨f_double_fields, g a_double_fields, k_double_fields, d_double_fields U_double_fields T  b_double_fields⟩⟩
  exact to0 (d_law U_law T P_caught P_double_fields P_single_fields P_kinds P_doubles P_singles P_draw P_value P_pen)
end K01
open PySem PySem.W PyProof.Rows in
set_option maxRecDepth 100000 in
set_option maxHeartbeats 0 in
theorem PySem.Challenge.cw_keptphrases_k01_errors_apart_holds : PySem.Challenge.rw_keptphrases_k01_errors_apart.Holds := by
  refine K01.headO ?_
  k_fill
  refine Kq.own_walkT (by decide +kernel) (k := 4) (l := PySem.Challenge.rw_keptphrases_k01_errors_apart) (n := 63) (x := "_law_script") rfl (by decide) rfl ⟨rfl, by decide, by decide⟩ (fun w h Y => PySem.W.kIn_of Y) ?F
  case F =>
    intro w mg fa h Y KX G hmg
    refine' K01.all_mk K01.law_math KX G hmg ?aC_PhraseError ?aC_BadWord ?aC_BadPlace ?aC_BadTruth ?aC_BadCount ?aC_BadLimit ?aC_BadOrder ?aC_BadGroup ?aC_BadTree ?aC_Unlike ?aC_BadBook ?aC_BadNode ?aC_BadList ?aC_NoWord ?aC_Taken ?aC_BadCommand ?aC_BadText ?aC_NoName ?aC_NotPhrase ?aC_Breaks ?aC_Clash ?aC_TooMany ?aC_NoChange ?aC_LastOrder ?a_pen ?l_pen ?c_pen ?k_pen ?a_kinds ?l_kinds ?c_kinds ?k_kinds ?a_caught ?l_caught ?c_caught ?k_caught ?a_draw ?l_draw ?c_draw ?k_draw ?a_pick ?l_pick ?c_pick ?k_pick ?a_value ?l_value ?c_value ?k_value ?a_singles ?l_singles ?c_singles ?k_singles ?a_doubles ?l_doubles ?c_doubles ?k_doubles ?a_single_fields ?l_single_fields ?c_single_fields ?k_single_fields ?a_double_fields ?l_double_fields ?c_double_fields ?k_double_fields ?a_law ?l_law ?c_law ?k_law ?z_list ?z_isinstance ?xL_TooMany ?rv_TooMany ?al_TooMany ?sa_TooMany ?iC_TooMany ?tC_TooMany ?kC_TooMany ?eC_TooMany ?vC_TooMany ?sf_TooMany ?ty_TooMany ?fn_TooMany ?ce_TooMany ?cod_TooMany ?vf_TooMany ?ff_TooMany ?cd_TooMany ?no_what_TooMany ?no_most_TooMany ?z0_LastOrder ?zk_LastOrder ?ze_LastOrder ?zt_LastOrder ?z0_NoChange ?zk_NoChange ?ze_NoChange ?zt_NoChange ?hs_PhraseError ?z_int ?z_abs ?z_len ?xL_NoName ?rv_NoName ?al_NoName ?sa_NoName ?iC_NoName ?tC_NoName ?kC_NoName ?eC_NoName ?vC_NoName ?sf_NoName ?ty_NoName ?fn_NoName ?ce_NoName ?cod_NoName ?vf_NoName ?ff_NoName ?cd_NoName ?no_name_NoName ?xL_BadCommand ?rv_BadCommand ?al_BadCommand ?sa_BadCommand ?iC_BadCommand ?tC_BadCommand ?kC_BadCommand ?eC_BadCommand ?vC_BadCommand ?sf_BadCommand ?ty_BadCommand ?fn_BadCommand ?ce_BadCommand ?cod_BadCommand ?vf_BadCommand ?ff_BadCommand ?cd_BadCommand ?no_word_BadCommand ?xL_Taken ?rv_Taken ?al_Taken ?sa_Taken ?iC_Taken ?tC_Taken ?kC_Taken ?eC_Taken ?vC_Taken ?sf_Taken ?ty_Taken ?fn_Taken ?ce_Taken ?cod_Taken ?vf_Taken ?ff_Taken ?cd_Taken ?no_word_Taken ?xL_NoWord ?rv_NoWord ?al_NoWord ?sa_NoWord ?iC_NoWord ?tC_NoWord ?kC_NoWord ?eC_NoWord ?vC_NoWord ?sf_NoWord ?ty_NoWord ?fn_NoWord ?ce_NoWord ?cod_NoWord ?vf_NoWord ?ff_NoWord ?cd_NoWord ?no_word_NoWord ?xL_BadList ?rv_BadList ?al_BadList ?sa_BadList ?iC_BadList ?tC_BadList ?kC_BadList ?eC_BadList ?vC_BadList ?sf_BadList ?ty_BadList ?fn_BadList ?ce_BadList ?cod_BadList ?vf_BadList ?ff_BadList ?cd_BadList ?no_at_BadList ?xL_BadNode ?rv_BadNode ?al_BadNode ?sa_BadNode ?iC_BadNode ?tC_BadNode ?kC_BadNode ?eC_BadNode ?vC_BadNode ?sf_BadNode ?ty_BadNode ?fn_BadNode ?ce_BadNode ?cod_BadNode ?vf_BadNode ?ff_BadNode ?cd_BadNode ?no_at_BadNode ?xL_BadBook ?rv_BadBook ?al_BadBook ?sa_BadBook ?iC_BadBook ?tC_BadBook ?kC_BadBook ?eC_BadBook ?vC_BadBook ?sf_BadBook ?ty_BadBook ?fn_BadBook ?ce_BadBook ?cod_BadBook ?vf_BadBook ?ff_BadBook ?cd_BadBook ?no_at_BadBook ?xL_Unlike ?rv_Unlike ?al_Unlike ?sa_Unlike ?iC_Unlike ?tC_Unlike ?kC_Unlike ?eC_Unlike ?vC_Unlike ?sf_Unlike ?ty_Unlike ?fn_Unlike ?ce_Unlike ?cod_Unlike ?vf_Unlike ?ff_Unlike ?cd_Unlike ?no_part_Unlike ?xL_BadTree ?rv_BadTree ?al_BadTree ?sa_BadTree ?iC_BadTree ?tC_BadTree ?kC_BadTree ?eC_BadTree ?vC_BadTree ?sf_BadTree ?ty_BadTree ?fn_BadTree ?ce_BadTree ?cod_BadTree ?vf_BadTree ?ff_BadTree ?cd_BadTree ?no_part_BadTree ?xL_BadGroup ?rv_BadGroup ?al_BadGroup ?sa_BadGroup ?iC_BadGroup ?tC_BadGroup ?kC_BadGroup ?eC_BadGroup ?vC_BadGroup ?sf_BadGroup ?ty_BadGroup ?fn_BadGroup ?ce_BadGroup ?cod_BadGroup ?vf_BadGroup ?ff_BadGroup ?cd_BadGroup ?no_part_BadGroup ?xL_BadOrder ?rv_BadOrder ?al_BadOrder ?sa_BadOrder ?iC_BadOrder ?tC_BadOrder ?kC_BadOrder ?eC_BadOrder ?vC_BadOrder ?sf_BadOrder ?ty_BadOrder ?fn_BadOrder ?ce_BadOrder ?cod_BadOrder ?vf_BadOrder ?ff_BadOrder ?cd_BadOrder ?no_part_BadOrder ?xL_BadLimit ?rv_BadLimit ?al_BadLimit ?sa_BadLimit ?iC_BadLimit ?tC_BadLimit ?kC_BadLimit ?eC_BadLimit ?vC_BadLimit ?sf_BadLimit ?ty_BadLimit ?fn_BadLimit ?ce_BadLimit ?cod_BadLimit ?vf_BadLimit ?ff_BadLimit ?cd_BadLimit ?no_value_BadLimit ?xL_BadCount ?rv_BadCount ?al_BadCount ?sa_BadCount ?iC_BadCount ?tC_BadCount ?kC_BadCount ?eC_BadCount ?vC_BadCount ?sf_BadCount ?ty_BadCount ?fn_BadCount ?ce_BadCount ?cod_BadCount ?vf_BadCount ?ff_BadCount ?cd_BadCount ?no_value_BadCount ?xL_BadTruth ?rv_BadTruth ?al_BadTruth ?sa_BadTruth ?iC_BadTruth ?tC_BadTruth ?kC_BadTruth ?eC_BadTruth ?vC_BadTruth ?sf_BadTruth ?ty_BadTruth ?fn_BadTruth ?ce_BadTruth ?cod_BadTruth ?vf_BadTruth ?ff_BadTruth ?cd_BadTruth ?no_value_BadTruth ?xL_BadPlace ?rv_BadPlace ?al_BadPlace ?sa_BadPlace ?iC_BadPlace ?tC_BadPlace ?kC_BadPlace ?eC_BadPlace ?vC_BadPlace ?sf_BadPlace ?ty_BadPlace ?fn_BadPlace ?ce_BadPlace ?cod_BadPlace ?vf_BadPlace ?ff_BadPlace ?cd_BadPlace ?no_value_BadPlace ?xL_BadWord ?rv_BadWord ?al_BadWord ?sa_BadWord ?iC_BadWord ?tC_BadWord ?kC_BadWord ?eC_BadWord ?vC_BadWord ?sf_BadWord ?ty_BadWord ?fn_BadWord ?ce_BadWord ?cod_BadWord ?vf_BadWord ?ff_BadWord ?cd_BadWord ?no_value_BadWord ?xL_Clash ?rv_Clash ?al_Clash ?sa_Clash ?iC_Clash ?tC_Clash ?kC_Clash ?eC_Clash ?vC_Clash ?sf_Clash ?ty_Clash ?fn_Clash ?ce_Clash ?cod_Clash ?vf_Clash ?ff_Clash ?cd_Clash ?no_run_Clash ?no_chain_Clash ?xL_Breaks ?rv_Breaks ?al_Breaks ?sa_Breaks ?iC_Breaks ?tC_Breaks ?kC_Breaks ?eC_Breaks ?vC_Breaks ?sf_Breaks ?ty_Breaks ?fn_Breaks ?ce_Breaks ?cod_Breaks ?vf_Breaks ?ff_Breaks ?cd_Breaks ?no_group_Breaks ?no_pull_Breaks ?xL_NotPhrase ?rv_NotPhrase ?al_NotPhrase ?sa_NotPhrase ?iC_NotPhrase ?tC_NotPhrase ?kC_NotPhrase ?eC_NotPhrase ?vC_NotPhrase ?sf_NotPhrase ?ty_NotPhrase ?fn_NotPhrase ?ce_NotPhrase ?cod_NotPhrase ?vf_NotPhrase ?ff_NotPhrase ?cd_NotPhrase ?no_group_NotPhrase ?no_pull_NotPhrase ?xL_BadText ?rv_BadText ?al_BadText ?sa_BadText ?iC_BadText ?tC_BadText ?kC_BadText ?eC_BadText ?vC_BadText ?sf_BadText ?ty_BadText ?fn_BadText ?ce_BadText ?cod_BadText ?vf_BadText ?ff_BadText ?cd_BadText ?no_line_BadText ?no_word_BadText ?hx_name ?hx_word ?hx_at ?hx_part ?hx_value ?hx_most ?hx_what ?hx_chain ?hx_run ?hx_pull ?hx_group ?hx_line ?z_range ?z_repr ?z_enumerate ?z_ValueError ?h_ve ?z_super ?h_opq ?h_top ?h_cl ?h_ex ?h_one ?h_ty ?h_ct
    (case aC_PhraseError => k_is)
    (case aC_BadWord => k_is)
    (case aC_BadPlace => k_is)
    (case aC_BadTruth => k_is)
    (case aC_BadCount => k_is)
    (case aC_BadLimit => k_is)
    (case aC_BadOrder => k_is)
    (case aC_BadGroup => k_is)
    (case aC_BadTree => k_is)
    (case aC_Unlike => k_is)
    (case aC_BadBook => k_is)
    (case aC_BadNode => k_is)
    (case aC_BadList => k_is)
    (case aC_NoWord => k_is)
    (case aC_Taken => k_is)
    (case aC_BadCommand => k_is)
    (case aC_BadText => k_is)
    (case aC_NoName => k_is)
    (case aC_NotPhrase => k_is)
    (case aC_Breaks => k_is)
    (case aC_Clash => k_is)
    (case aC_TooMany => k_is)
    (case aC_NoChange => k_is)
    (case aC_LastOrder => k_is)
    (case a_pen => k_is)
    (case l_pen => k_is)
    (case c_pen => k_is)
    (case k_pen => k_is)
    (case a_kinds => k_is)
    (case l_kinds => k_is)
    (case c_kinds => k_is)
    (case k_kinds => k_is)
    (case a_caught => k_is)
    (case l_caught => k_is)
    (case c_caught => k_is)
    (case k_caught => k_is)
    (case a_draw => k_is)
    (case l_draw => k_is)
    (case c_draw => k_is)
    (case k_draw => k_is)
    (case a_pick => k_is)
    (case l_pick => k_is)
    (case c_pick => k_is)
    (case k_pick => k_is)
    (case a_value => k_is)
    (case l_value => k_is)
    (case c_value => k_is)
    (case k_value => k_is)
    (case a_singles => k_is)
    (case l_singles => k_is)
    (case c_singles => k_is)
    (case k_singles => k_is)
    (case a_doubles => k_is)
    (case l_doubles => k_is)
    (case c_doubles => k_is)
    (case k_doubles => k_is)
    (case a_single_fields => k_is)
    (case l_single_fields => k_is)
    (case c_single_fields => k_is)
    (case k_single_fields => k_is)
    (case a_double_fields => k_is)
    (case l_double_fields => k_is)
    (case c_double_fields => k_is)
    (case k_double_fields => k_is)
    (case a_law => k_is)
    (case l_law => k_is)
    (case c_law => k_is)
    (case k_law => k_is)
    (case z_list => k_is)
    (case z_isinstance => k_is)
    (case xL_TooMany => k_is)
    (case rv_TooMany => kernel_rfl)
    (case al_TooMany => kernel_rfl)
    (case sa_TooMany => k_is)
    (case iC_TooMany => k_is)
    (case tC_TooMany => k_is)
    (case kC_TooMany => k_is)
    (case eC_TooMany => k_is)
    (case vC_TooMany => k_is)
    (case sf_TooMany => k_is)
    (case ty_TooMany => k_is)
    (case fn_TooMany => k_is)
    (case ce_TooMany => k_is)
    (case cod_TooMany => k_is)
    (case vf_TooMany => rfl)
    (case ff_TooMany => kernel_rfl)
    (case cd_TooMany => k_is)
    (case no_what_TooMany => k_is)
    (case no_most_TooMany => k_is)
    (case z0_LastOrder => kernel_rfl)
    (case zk_LastOrder => k_is)
    (case ze_LastOrder => k_is)
    (case zt_LastOrder => k_is)
    (case z0_NoChange => kernel_rfl)
    (case zk_NoChange => k_is)
    (case ze_NoChange => k_is)
    (case zt_NoChange => k_is)
    (case hs_PhraseError => kernel_rfl)
    (case z_int => k_is)
    (case z_abs => k_is)
    (case z_len => k_is)
    (case xL_NoName => k_is)
    (case rv_NoName => kernel_rfl)
    (case al_NoName => kernel_rfl)
    (case sa_NoName => k_is)
    (case iC_NoName => k_is)
    (case tC_NoName => k_is)
    (case kC_NoName => k_is)
    (case eC_NoName => k_is)
    (case vC_NoName => k_is)
    (case sf_NoName => k_is)
    (case ty_NoName => k_is)
    (case fn_NoName => k_is)
    (case ce_NoName => k_is)
    (case cod_NoName => k_is)
    (case vf_NoName => rfl)
    (case ff_NoName => kernel_rfl)
    (case cd_NoName => k_is)
    (case no_name_NoName => k_is)
    (case xL_BadCommand => k_is)
    (case rv_BadCommand => kernel_rfl)
    (case al_BadCommand => kernel_rfl)
    (case sa_BadCommand => k_is)
    (case iC_BadCommand => k_is)
    (case tC_BadCommand => k_is)
    (case kC_BadCommand => k_is)
    (case eC_BadCommand => k_is)
    (case vC_BadCommand => k_is)
    (case sf_BadCommand => k_is)
    (case ty_BadCommand => k_is)
    (case fn_BadCommand => k_is)
    (case ce_BadCommand => k_is)
    (case cod_BadCommand => k_is)
    (case vf_BadCommand => rfl)
    (case ff_BadCommand => kernel_rfl)
    (case cd_BadCommand => k_is)
    (case no_word_BadCommand => k_is)
    (case xL_Taken => k_is)
    (case rv_Taken => kernel_rfl)
    (case al_Taken => kernel_rfl)
    (case sa_Taken => k_is)
    (case iC_Taken => k_is)
    (case tC_Taken => k_is)
    (case kC_Taken => k_is)
    (case eC_Taken => k_is)
    (case vC_Taken => k_is)
    (case sf_Taken => k_is)
    (case ty_Taken => k_is)
    (case fn_Taken => k_is)
    (case ce_Taken => k_is)
    (case cod_Taken => k_is)
    (case vf_Taken => rfl)
    (case ff_Taken => kernel_rfl)
    (case cd_Taken => k_is)
    (case no_word_Taken => k_is)
    (case xL_NoWord => k_is)
    (case rv_NoWord => kernel_rfl)
    (case al_NoWord => kernel_rfl)
    (case sa_NoWord => k_is)
    (case iC_NoWord => k_is)
    (case tC_NoWord => k_is)
    (case kC_NoWord => k_is)
    (case eC_NoWord => k_is)
    (case vC_NoWord => k_is)
    (case sf_NoWord => k_is)
    (case ty_NoWord => k_is)
    (case fn_NoWord => k_is)
    (case ce_NoWord => k_is)
    (case cod_NoWord => k_is)
    (case vf_NoWord => rfl)
    (case ff_NoWord => kernel_rfl)
    (case cd_NoWord => k_is)
    (case no_word_NoWord => k_is)
    (case xL_BadList => k_is)
    (case rv_BadList => kernel_rfl)
    (case al_BadList => kernel_rfl)
    (case sa_BadList => k_is)
    (case iC_BadList => k_is)
    (case tC_BadList => k_is)
    (case kC_BadList => k_is)
    (case eC_BadList => k_is)
    (case vC_BadList => k_is)
    (case sf_BadList => k_is)
    (case ty_BadList => k_is)
    (case fn_BadList => k_is)
    (case ce_BadList => k_is)
    (case cod_BadList => k_is)
    (case vf_BadList => rfl)
    (case ff_BadList => kernel_rfl)
    (case cd_BadList => k_is)
    (case no_at_BadList => k_is)
    (case xL_BadNode => k_is)
    (case rv_BadNode => kernel_rfl)
    (case al_BadNode => kernel_rfl)
    (case sa_BadNode => k_is)
    (case iC_BadNode => k_is)
    (case tC_BadNode => k_is)
    (case kC_BadNode => k_is)
    (case eC_BadNode => k_is)
    (case vC_BadNode => k_is)
    (case sf_BadNode => k_is)
    (case ty_BadNode => k_is)
    (case fn_BadNode => k_is)
    (case ce_BadNode => k_is)
    (case cod_BadNode => k_is)
    (case vf_BadNode => rfl)
    (case ff_BadNode => kernel_rfl)
    (case cd_BadNode => k_is)
    (case no_at_BadNode => k_is)
    (case xL_BadBook => k_is)
    (case rv_BadBook => kernel_rfl)
    (case al_BadBook => kernel_rfl)
    (case sa_BadBook => k_is)
    (case iC_BadBook => k_is)
    (case tC_BadBook => k_is)
    (case kC_BadBook => k_is)
    (case eC_BadBook => k_is)
    (case vC_BadBook => k_is)
    (case sf_BadBook => k_is)
    (case ty_BadBook => k_is)
    (case fn_BadBook => k_is)
    (case ce_BadBook => k_is)
    (case cod_BadBook => k_is)
    (case vf_BadBook => rfl)
    (case ff_BadBook => kernel_rfl)
    (case cd_BadBook => k_is)
    (case no_at_BadBook => k_is)
    (case xL_Unlike => k_is)
    (case rv_Unlike => kernel_rfl)
    (case al_Unlike => kernel_rfl)
    (case sa_Unlike => k_is)
    (case iC_Unlike => k_is)
    (case tC_Unlike => k_is)
    (case kC_Unlike => k_is)
    (case eC_Unlike => k_is)
    (case vC_Unlike => k_is)
    (case sf_Unlike => k_is)
    (case ty_Unlike => k_is)
    (case fn_Unlike => k_is)
    (case ce_Unlike => k_is)
    (case cod_Unlike => k_is)
    (case vf_Unlike => rfl)
    (case ff_Unlike => kernel_rfl)
    (case cd_Unlike => k_is)
    (case no_part_Unlike => k_is)
    (case xL_BadTree => k_is)
    (case rv_BadTree => kernel_rfl)
    (case al_BadTree => kernel_rfl)
    (case sa_BadTree => k_is)
    (case iC_BadTree => k_is)
    (case tC_BadTree => k_is)
    (case kC_BadTree => k_is)
    (case eC_BadTree => k_is)
    (case vC_BadTree => k_is)
    (case sf_BadTree => k_is)
    (case ty_BadTree => k_is)
    (case fn_BadTree => k_is)
    (case ce_BadTree => k_is)
    (case cod_BadTree => k_is)
    (case vf_BadTree => rfl)
    (case ff_BadTree => kernel_rfl)
    (case cd_BadTree => k_is)
    (case no_part_BadTree => k_is)
    (case xL_BadGroup => k_is)
    (case rv_BadGroup => kernel_rfl)
    (case al_BadGroup => kernel_rfl)
    (case sa_BadGroup => k_is)
    (case iC_BadGroup => k_is)
    (case tC_BadGroup => k_is)
    (case kC_BadGroup => k_is)
    (case eC_BadGroup => k_is)
    (case vC_BadGroup => k_is)
    (case sf_BadGroup => k_is)
    (case ty_BadGroup => k_is)
    (case fn_BadGroup => k_is)
    (case ce_BadGroup => k_is)
    (case cod_BadGroup => k_is)
    (case vf_BadGroup => rfl)
    (case ff_BadGroup => kernel_rfl)
    (case cd_BadGroup => k_is)
    (case no_part_BadGroup => k_is)
    (case xL_BadOrder => k_is)
    (case rv_BadOrder => kernel_rfl)
    (case al_BadOrder => kernel_rfl)
    (case sa_BadOrder => k_is)
    (case iC_BadOrder => k_is)
    (case tC_BadOrder => k_is)
    (case kC_BadOrder => k_is)
    (case eC_BadOrder => k_is)
    (case vC_BadOrder => k_is)
    (case sf_BadOrder => k_is)
    (case ty_BadOrder => k_is)
    (case fn_BadOrder => k_is)
    (case ce_BadOrder => k_is)
    (case cod_BadOrder => k_is)
    (case vf_BadOrder => rfl)
    (case ff_BadOrder => kernel_rfl)
    (case cd_BadOrder => k_is)
    (case no_part_BadOrder => k_is)
    (case xL_BadLimit => k_is)
    (case rv_BadLimit => kernel_rfl)
    (case al_BadLimit => kernel_rfl)
    (case sa_BadLimit => k_is)
    (case iC_BadLimit => k_is)
    (case tC_BadLimit => k_is)
    (case kC_BadLimit => k_is)
    (case eC_BadLimit => k_is)
    (case vC_BadLimit => k_is)
    (case sf_BadLimit => k_is)
    (case ty_BadLimit => k_is)
    (case fn_BadLimit => k_is)
    (case ce_BadLimit => k_is)
    (case cod_BadLimit => k_is)
    (case vf_BadLimit => rfl)
    (case ff_BadLimit => kernel_rfl)
    (case cd_BadLimit => k_is)
    (case no_value_BadLimit => k_is)
    (case xL_BadCount => k_is)
    (case rv_BadCount => kernel_rfl)
    (case al_BadCount => kernel_rfl)
    (case sa_BadCount => k_is)
    (case iC_BadCount => k_is)
    (case tC_BadCount => k_is)
    (case kC_BadCount => k_is)
    (case eC_BadCount => k_is)
    (case vC_BadCount => k_is)
    (case sf_BadCount => k_is)
    (case ty_BadCount => k_is)
    (case fn_BadCount => k_is)
    (case ce_BadCount => k_is)
    (case cod_BadCount => k_is)
    (case vf_BadCount => rfl)
    (case ff_BadCount => kernel_rfl)
    (case cd_BadCount => k_is)
    (case no_value_BadCount => k_is)
    (case xL_BadTruth => k_is)
    (case rv_BadTruth => kernel_rfl)
    (case al_BadTruth => kernel_rfl)
    (case sa_BadTruth => k_is)
    (case iC_BadTruth => k_is)
    (case tC_BadTruth => k_is)
    (case kC_BadTruth => k_is)
    (case eC_BadTruth => k_is)
    (case vC_BadTruth => k_is)
    (case sf_BadTruth => k_is)
    (case ty_BadTruth => k_is)
    (case fn_BadTruth => k_is)
    (case ce_BadTruth => k_is)
    (case cod_BadTruth => k_is)
    (case vf_BadTruth => rfl)
    (case ff_BadTruth => kernel_rfl)
    (case cd_BadTruth => k_is)
    (case no_value_BadTruth => k_is)
    (case xL_BadPlace => k_is)
    (case rv_BadPlace => kernel_rfl)
    (case al_BadPlace => kernel_rfl)
    (case sa_BadPlace => k_is)
    (case iC_BadPlace => k_is)
    (case tC_BadPlace => k_is)
    (case kC_BadPlace => k_is)
    (case eC_BadPlace => k_is)
    (case vC_BadPlace => k_is)
    (case sf_BadPlace => k_is)
    (case ty_BadPlace => k_is)
    (case fn_BadPlace => k_is)
    (case ce_BadPlace => k_is)
    (case cod_BadPlace => k_is)
    (case vf_BadPlace => rfl)
    (case ff_BadPlace => kernel_rfl)
    (case cd_BadPlace => k_is)
    (case no_value_BadPlace => k_is)
    (case xL_BadWord => k_is)
    (case rv_BadWord => kernel_rfl)
    (case al_BadWord => kernel_rfl)
    (case sa_BadWord => k_is)
    (case iC_BadWord => k_is)
    (case tC_BadWord => k_is)
    (case kC_BadWord => k_is)
    (case eC_BadWord => k_is)
    (case vC_BadWord => k_is)
    (case sf_BadWord => k_is)
    (case ty_BadWord => k_is)
    (case fn_BadWord => k_is)
    (case ce_BadWord => k_is)
    (case cod_BadWord => k_is)
    (case vf_BadWord => rfl)
    (case ff_BadWord => kernel_rfl)
    (case cd_BadWord => k_is)
    (case no_value_BadWord => k_is)
    (case xL_Clash => k_is)
    (case rv_Clash => kernel_rfl)
    (case al_Clash => kernel_rfl)
    (case sa_Clash => k_is)
    (case iC_Clash => k_is)
    (case tC_Clash => k_is)
    (case kC_Clash => k_is)
    (case eC_Clash => k_is)
    (case vC_Clash => k_is)
    (case sf_Clash => k_is)
    (case ty_Clash => k_is)
    (case fn_Clash => k_is)
    (case ce_Clash => k_is)
    (case cod_Clash => k_is)
    (case vf_Clash => rfl)
    (case ff_Clash => kernel_rfl)
    (case cd_Clash => k_is)
    (case no_run_Clash => k_is)
    (case no_chain_Clash => k_is)
    (case xL_Breaks => k_is)
    (case rv_Breaks => kernel_rfl)
    (case al_Breaks => kernel_rfl)
    (case sa_Breaks => k_is)
    (case iC_Breaks => k_is)
    (case tC_Breaks => k_is)
    (case kC_Breaks => k_is)
    (case eC_Breaks => k_is)
    (case vC_Breaks => k_is)
    (case sf_Breaks => k_is)
    (case ty_Breaks => k_is)
    (case fn_Breaks => k_is)
    (case ce_Breaks => k_is)
    (case cod_Breaks => k_is)
    (case vf_Breaks => rfl)
    (case ff_Breaks => kernel_rfl)
    (case cd_Breaks => k_is)
    (case no_group_Breaks => k_is)
    (case no_pull_Breaks => k_is)
    (case xL_NotPhrase => k_is)
    (case rv_NotPhrase => kernel_rfl)
    (case al_NotPhrase => kernel_rfl)
    (case sa_NotPhrase => k_is)
    (case iC_NotPhrase => k_is)
    (case tC_NotPhrase => k_is)
    (case kC_NotPhrase => k_is)
    (case eC_NotPhrase => k_is)
    (case vC_NotPhrase => k_is)
    (case sf_NotPhrase => k_is)
    (case ty_NotPhrase => k_is)
    (case fn_NotPhrase => k_is)
    (case ce_NotPhrase => k_is)
    (case cod_NotPhrase => k_is)
    (case vf_NotPhrase => rfl)
    (case ff_NotPhrase => kernel_rfl)
    (case cd_NotPhrase => k_is)
    (case no_group_NotPhrase => k_is)
    (case no_pull_NotPhrase => k_is)
    (case xL_BadText => k_is)
    (case rv_BadText => kernel_rfl)
    (case al_BadText => kernel_rfl)
    (case sa_BadText => k_is)
    (case iC_BadText => k_is)
    (case tC_BadText => k_is)
    (case kC_BadText => k_is)
    (case eC_BadText => k_is)
    (case vC_BadText => k_is)
    (case sf_BadText => k_is)
    (case ty_BadText => k_is)
    (case fn_BadText => k_is)
    (case ce_BadText => k_is)
    (case cod_BadText => k_is)
    (case vf_BadText => rfl)
    (case ff_BadText => kernel_rfl)
    (case cd_BadText => k_is)
    (case no_line_BadText => k_is)
    (case no_word_BadText => k_is)
    (case hx_name => kernel_rfl)
    (case hx_word => kernel_rfl)
    (case hx_at => kernel_rfl)
    (case hx_part => kernel_rfl)
    (case hx_value => kernel_rfl)
    (case hx_most => kernel_rfl)
    (case hx_what => kernel_rfl)
    (case hx_chain => kernel_rfl)
    (case hx_run => kernel_rfl)
    (case hx_pull => kernel_rfl)
    (case hx_group => kernel_rfl)
    (case hx_line => kernel_rfl)
    (case z_range => k_is)
    (case z_repr => k_is)
    (case z_enumerate => k_is)
    (case z_ValueError => k_is)
    (case h_ve => kernel_rfl)
    (case z_super => k_is)
    (case h_opq => k_is)
    (case h_top => kernel_rfl)
    (case h_cl => kernel_rfl)
    (case h_ex => kernel_rfl)
    (case h_one => kernel_rfl)
    (case h_ty => kernel_rfl)
    (case h_ct => kernel_rfl)
