import PyProof.Rows.All
import Wide.All
import OpenK.AllK
import Wide.FinOn
import HandS.ForMost
import HandS.IsInst
import HandS.WideBits
import HandS.Wide
import HandS.Flow
import HandS.RaiseMore
import HandS.EndBits
import HandS.ForExc
import HandS.ExcInit
import HandS.ExcIs
import HandS.ExcField
import HandS.TryMany
import KE.KExcInit
import KE.KExcIs
import KE.KExcLine
import KE.RegKIsAll
import HandS.FStr
import HandS.Style
import HandS.Codes
import KE.KRevSl
import KE.GoesEnum
import KE.KDictZip
import HandS.Walk
import PySem.Challenge.RW_groupsteps_k13_whole_rising_lists
set_option Elab.async false
set_option linter.all false
set_option maxRecDepth 100000
set_option maxHeartbeats 4000000
namespace KX
open PySem PySem.Spec PyProof.Rows L2

/-! ### calls where the frames' guards are told (repr of containers asks for them) -/
structure Rg (k : Nat) (A : Around) : Prop where
  room : Room k A
  gd : A.guards = some []
theorem Rg.mono {j k : Nat} {A : Around} (r : Rg k A) (h : j ≤ k) : Rg j A := ⟨r.room.mono h, r.gd⟩
theorem Rg.deeper {k : Nat} {A : Around} (r : Rg (k + 1) A) (env : Env) : Rg k (A.deeper env) := ⟨r.room.deeper env, r.gd⟩

structure Fg (P : Program) (w : World) (K : PySem.W.Frag) (mg : Str → Option Value) (base : Heap) (CX : CXT) (k : Nat) (f : Addr) (fd : FuncData) (ps : List Str) (sp : Sp) : Prop where
  len : ∀ vs H Q E, sp vs H Q E → vs.length = ps.length
  run : ∀ (A : Around) (outer : List Env) (s : Shared) (H : Hp) (args : Args) (us : List Value) (vs : List V) (Q : VK) (E : XK), Rg k A → Env0 P w K mg base A outer s H → BindsTo s fd args (ps.zip us) → Vals vs us → sp vs H Q E →
    codeAny (model P w) A (.call (.ref f) args) (CR CX outer P w H s Q E) s
theorem Fg.mono {P : Program} {w : World} {K : PySem.W.Frag} {mg : Str → Option Value} {base : Heap} {CX : CXT} {j k : Nat} {f : Addr} {fd : FuncData} {ps : List Str} {sp : Sp} (F : Fg P w K mg base CX j f fd ps sp) (h : j ≤ k) :
    Fg P w K mg base CX k f fd ps sp := ⟨F.len, fun A outer s H args us vs Q E hr => F.run A outer s H args us vs Q E (hr.mono h)⟩

section
variable {X : Cx} {CX : CXT} {k : Nat} {f C : Addr} {fd : FuncData} {ps : List Str} {sp : Sp} {dvs : List V} {ds : List Value} {E : XK} {x m : Str} {p pos apos : Pos} {e o : Expr} {es : List Expr} {ta : TE} {t : TA}
theorem run_fn {pins : List (Addr × Obj)} {σ : L2.St} {H : Hp} {s : Shared} {Q : VK} {us : List Value} {vs : List V} (F : Fg X.prog X.w X.K X.mg X.base CX k f fd ps sp) (hr : Rg k X.A) (hb : Binds X.K fd ps ds) (hd : Vals dvs ds) (hx : Passes CX X E)
    (I : Inv X pins σ H s) (r : Vals vs us) (h : sp (vs ++ dvs) H Q E) : wpAny (model X.prog X.w) X.A (call (.ref f) us) (EP X pins σ Q) X.xe s := by
  have r2 : Vals (vs ++ dvs) (us ++ ds) := r.append hd
  have hl : (us ++ ds).length = ps.length := by rw [← r2.length]; exact F.len _ _ _ _ h
  refine wpAny_call (codeAny_mono (F.run X.A X.stack s H ⟨us, []⟩ (us ++ ds) (vs ++ dvs) Q E hr I.env0 (hb s us I.kIn hl) r2 h) fun r s' hq => ?_)
  cases r with
  | error e => exact hx pins σ H s e s' I hq
  | ok fl =>
    cases fl with
    | ret u => exact I.after hq
    | next => exact False.elim hq
    | brk => exact False.elim hq
    | cont => exact False.elim hq
theorem pe_call (F : Fg X.prog X.w X.K X.mg X.base CX k f fd ps sp) (hr : Rg k X.A) (hg : Gl X x) (hm : X.mg x = some (.ref f)) (hk : PySem.W.keepIn X.K (.ref f) = true) (hb : Binds X.K fd ps ds) (hd : Vals dvs ds) (hx : Passes CX X E)
    (ha : PA X (e :: es) t) (hdb : (x == ("__debug__" : Str)) = false := by decide) (he : starEach (e :: es) X.env = (false, eval e X.env) :: starEach es X.env := by rfl) (hpl : (backTo pos (starEach es X.env)).any (·.1) = false := by rfl) :
    PE X (.Call (.Name x p) (e :: es) [] pos) (tCall sp dvs E t) := by
  refine ⟨fun pins s σ H Q I h => ?_⟩
  refine wpAny_Call_Name_kw (ld_glob I hg hm ?_ hdb)
  refine PySem.W.callWith_K (h₀ := X.base) I.ok.mod.kin hk (thn (ha.run pos pins s σ H _ I h) fun us s1 ⟨vs, H1, I1, r, q⟩ => ⟨I1.kIn, ?_⟩) he hpl
  exact run_fn F hr hb hd hx I1 r q
theorem pe_call0 (F : Fg X.prog X.w X.K X.mg X.base CX k f fd ps sp) (hr : Rg k X.A) (hg : Gl X x) (hm : X.mg x = some (.ref f)) (hk : PySem.W.keepIn X.K (.ref f) = true) (hb : Binds X.K fd ps ds) (hd : Vals dvs ds) (hx : Passes CX X E)
    (hdb : (x == ("__debug__" : Str)) = false := by decide) : PE X (.Call (.Name x p) [] [] pos) (tCall sp dvs E tNil) := by
  refine ⟨fun pins s σ H Q I h => ?_⟩
  refine wpAny_Call_Name_kw (ld_glob I hg hm ?_ hdb)
  exact PySem.W.callWith_K0 I.kIn hk (run_fn (us := []) F hr hb hd hx I .nil h)
end

theorem fg_of {CX : CXT} {P : Program} {w : World} {K : PySem.W.Frag} {mg : Str → Option Value} {base : Heap} {k : Nat} {f : Addr} {name qual : Str} {params : Arguments} {body : List Stmt} {scope : Scope} {dV kV doc pm cdv ct oc : Value} {an od : Option Addr}
    {osl : Array (Option Value)} {N ps : List Str} {sp : Sp} (lk : K.lookup f = some ⟨oc, od, .func (PySem.W.fnOf name qual params body scope dV kV doc pm an cdv ct), osl⟩) (hcd : PySem.W.codeIn K cdv qual = true) (S : FnScope N ps scope)
    (len : ∀ vs H Q E, sp vs H Q E → vs.length = ps.length)
    (hbody : ∀ (A : Around) (outer : List Env) (s : Shared) (H : Hp) (vs : List V) (Q : VK) (E : XK), Rg k (A.deeper (envOfC qual scope s.heap.objs.size f cdv)) → sp vs H Q E →
      ∃ t, PSs (cxOf CX P w K mg base N qual scope f cdv A outer s H E) body t ∧ t { nx := fun _ H' => Q .non H', rt := Q } (start N vs) H) :
    Fg P w K mg base CX (k + 1) f (PySem.W.fnOf name qual params body scope dV kV doc pm an cdv ct) ps sp := by
  refine ⟨len, fun A outer s H args us vs Q E hrg e0 hb r hsp => ?_⟩
  have hr := hrg.room
  have hl := len _ _ _ _ hsp
  have KX : K.In s.heap := e0.mod.kin.keeps fun b o e => (e0.bs b o e).1
  have lim : s.heap.NoLimit := e0.mod.nolimit.keeps fun b o e => (e0.bs b o e).1
  have hkind : ∀ y ∈ ps.zip us, scope.names.lookup y.1 = some .local ∨ (scope.names.lookup y.1 = some .cell ∧ ((cellsFrom (s.heap.objs.size + 1) scope.names []).lookup y.1).isSome = true) := fun ⟨n, v⟩ hy => by
    rcases S.par n (List.of_mem_zip hy).1 with q | q
    · exact .inl q
    · exact .inr ⟨q, PySem.W.cellsFrom_some _ _ _ (.inl q)⟩
  refine codeAny_call_function hr.depth (KX _ _ lk) rfl S.co S.gen rfl (PySem.W.codeRec_of KX hcd) (hb _ _ _ _ ?_)
  refine wpAny_newFunctionEnv_cells S.kind hkind fun env he s1 x => ?_
  subst he
  refine ⟨lim.keeps x.toInCall.keep, codeAny_func ?_⟩
  obtain ⟨t, ht, hq⟩ := hbody A outer s H vs Q E (hrg.deeper _) hsp
  have I : Inv (cxOf CX P w K mg base N qual scope f cdv A outer s H E) [] (start N vs) H s1 := inv_start S hr.hd e0 hl r x
  refine wpAny_mono (ht.run [] s1 (start N vs) H _ I hq) (fun fl s' hs => ?_) fun e s' hs => hs
  have fin : ∀ {σ' : L2.St} {H' : Hp} {v : V} {u : Value}, Inv (cxOf CX P w K mg base N qual scope f cdv A outer s H E) [] σ' H' s' → RelV v u → Q v H' → CE outer P w H s Q u s' :=
    fun {σ' H' v u} J rv q => ⟨v, H', J.os, J.bare, J.base, J.hok, rv, q⟩
  cases fl with
  | ret u =>
    obtain ⟨v, σ', H', J, rv, q⟩ := hs
    exact fin J rv q
  | next =>
    obtain ⟨σ', H', J, q⟩ := hs
    exact fin (v := V.non) (u := Value.none) J rfl q
  | brk =>
    obtain ⟨_, _, _, q⟩ := hs
    exact False.elim q
  | cont =>
    obtain ⟨_, _, _, q⟩ := hs
    exact False.elim q
section
variable {P : Program} {w : World} {K : PySem.W.Frag} {mg : Str → Option Value} {base : Heap}
theorem ok_g {x qual : Str} {st : Stmt} {f : Addr} {fd : FuncData} {N ps : List Str} {k : Nat} {sp : Sp} (F : Fun K x qual st f fd) (S : FnScope N ps (defScope st)) (len : ∀ vs H Q E, sp vs H Q E → vs.length = ps.length)
    (hbody : ∀ (cdv : Value) (A : Around) (outer : List Env) (s : Shared) (H : Hp) (vs : List V) (Q : VK) (E : XK), Rg k (A.deeper (envOfC qual (defScope st) s.heap.objs.size f cdv)) → sp vs H Q E →
      ∃ t, PSs (cxOf CX0 P w K mg base N qual (defScope st) f cdv A outer s H E).nox (defBody st) t ∧ t { nx := fun _ H' => Q .non H', rt := Q } (start N vs) H) : Fg P w K mg base CX0 (k + 1) f fd ps sp := by
  obtain ⟨oc, od, kV, doc, pm, an, cdv, ct, osl, rfl, lk, hcd⟩ := F.ex
  refine fg_of lk hcd S len fun A outer s H vs Q E hr hsp => ?_
  obtain ⟨t, h, q⟩ := hbody cdv A outer s H vs Q E hr hsp
  exact ⟨t, h.nox, q⟩
theorem ok_gX {x qual : Str} {st : Stmt} {f : Addr} {fd : FuncData} {N ps : List Str} {k : Nat} {sp : Sp} {CX : CXT} (F : Fun K x qual st f fd) (S : FnScope N ps (defScope st)) (len : ∀ vs H Q E, sp vs H Q E → vs.length = ps.length)
    (hbody : ∀ (cdv : Value) (A : Around) (outer : List Env) (s : Shared) (H : Hp) (vs : List V) (Q : VK) (E : XK), Rg k (A.deeper (envOfC qual (defScope st) s.heap.objs.size f cdv)) → sp vs H Q E →
      ∃ t, PSs (cxOf CX P w K mg base N qual (defScope st) f cdv A outer s H E) (defBody st) t ∧ t { nx := fun _ H' => Q .non H', rt := Q } (start N vs) H) : Fg P w K mg base CX (k + 1) f fd ps sp := by
  obtain ⟨oc, od, kV, doc, pm, an, cdv, ct, osl, rfl, lk, hcd⟩ := F.ex
  exact fg_of lk hcd S len fun A outer s H vs Q E hr hsp => hbody cdv A outer s H vs Q E hr hsp
end

/-! ### data at any depth, dicts with int and text keys among them -/
def keyD : Key → PyData
  | .inl i => .int i
  | .inr x => .str x
mutual
inductive DaF (b : Bool) (K : PySem.W.Frag) (H : Hp) : V → PyData → Prop
  | non : DaF b K H .non .none
  | bl (c : Bool) : DaF b K H (.bl c) (.bool c)
  | int (i : Int) : DaF b K H (.int i) (.int i)
  | str (x : Str) : DaF b K H (.str x) (.str x)
  | lst {a : Addr} {xs : List V} {ds : List PyData} : SqL K H a xs → (b = true → a ≠ sysModules) → DaAllF b K H xs ds → DaF b K H (.ref a) (.list ds)
  | tup {a : Addr} {xs : List V} {ds : List PyData} : SqT K H a xs → DaAllF b K H xs ds → DaF b K H (.ref a) (.tuple ds)
  | dic {a : Addr} {kvs : List (Key × V)} {dk : List (PyData × PyData)} : Rd H a (.dK kvs) → DaKvF b K H kvs dk → DaF b K H (.ref a) (.dict dk)
inductive DaAllF (b : Bool) (K : PySem.W.Frag) (H : Hp) : List V → List PyData → Prop
  | nil : DaAllF b K H [] []
  | cons {v : V} {vs : List V} {d : PyData} {ds : List PyData} : DaF b K H v d → DaAllF b K H vs ds → DaAllF b K H (v :: vs) (d :: ds)
inductive DaKvF (b : Bool) (K : PySem.W.Frag) (H : Hp) : List (Key × V) → List (PyData × PyData) → Prop
  | nil : DaKvF b K H [] []
  | cons {k : Key} {v : V} {kvs : List (Key × V)} {d : PyData} {ds : List (PyData × PyData)} : DaF b K H v d → DaKvF b K H kvs ds → DaKvF b K H ((k, v) :: kvs) ((keyD k, d) :: ds)
end
theorem Rd.same {H H' : Hp} {a : Addr} {u : HO} (e : Same H H') (r : Rd H a u) : Rd H' a u := by
  rcases r with r | ⟨o, r⟩
  · exact .inl (e _ _ r)
  · exact .inr ⟨o, e _ _ r⟩
theorem same_seqT {K : PySem.W.Frag} {H H' : Hp} {a : Addr} {xs : List V} (e : Same H H') (h : SqT K H a xs) : SqT K H' a xs := by
  rcases h with h | h
  · exact .inl (Rd.same e h)
  · exact .inr h
mutual
theorem DaF.same {b : Bool} {K : PySem.W.Frag} {H H' : Hp} (e : Same H H') : ∀ {v : V} {d : PyData}, DaF b K H v d → DaF b K H' v d
  | _, _, .non => .non
  | _, _, .bl b => .bl b
  | _, _, .int i => .int i
  | _, _, .str x => .str x
  | _, _, .lst h n a => .lst (e.seq h) n (DaAllF.same e a)
  | _, _, .tup h a => .tup (same_seqT e h) (DaAllF.same e a)
  | _, _, .dic h a => .dic (Rd.same e h) (DaKvF.same e a)
theorem DaAllF.same {b : Bool} {K : PySem.W.Frag} {H H' : Hp} (e : Same H H') : ∀ {vs : List V} {ds : List PyData}, DaAllF b K H vs ds → DaAllF b K H' vs ds
  | _, _, .nil => .nil
  | _, _, .cons a r => .cons (DaF.same e a) (DaAllF.same e r)
theorem DaKvF.same {b : Bool} {K : PySem.W.Frag} {H H' : Hp} (e : Same H H') : ∀ {kvs : List (Key × V)} {ds : List (PyData × PyData)}, DaKvF b K H kvs ds → DaKvF b K H' kvs ds
  | _, _, .nil => .nil
  | _, _, .cons a r => .cons (DaF.same e a) (DaKvF.same e r)
end
/-- the records of a dict read -/
theorem kv_reads {P : Program} {w : World} {h : Heap} {vs : List (Key × Value)} : ∀ {es : List DictEntry} {kvs : List (Key × V)} {dk : List (PyData × PyData)}, Pairs (mixKind P w) es vs → (dk.map (·.1)) = vs.map (fun p => keyD p.1) → ∃ as, ReadsAll h (es.map (·.key)) (dk.map (·.1)) as ∧ as = [] := by
  intro es kvs dk hp he
  rw [he]
  clear he
  induction hp with
  | nil => exact ⟨_, ReadsAll.nil, rfl⟩
  | @cons e kv es kvs hk hv hr ih =>
    obtain ⟨as, q, rfl⟩ := ih
    have hk' : keyIs kv.1 e.key = true := hk
    rcases keyIs_shape hk' with ⟨i, t, e1, e2⟩ | ⟨x, t, e1, e2⟩
    · refine ⟨[] ++ [], ReadsAll.cons (d := keyD kv.1) (v := e.key) (as := []) ?_ q, rfl⟩
      rw [e1, e2]; exact Reads.int i t
    · refine ⟨[] ++ [], ReadsAll.cons (d := keyD kv.1) (v := e.key) (as := []) ?_ q, rfl⟩
      rw [e1, e2]; exact Reads.str x t
theorem dakv_keys {b : Bool} {K : PySem.W.Frag} {H : Hp} : ∀ {kvs : List (Key × V)} {dk : List (PyData × PyData)}, DaKvF b K H kvs dk → dk.map (·.1) = kvs.map (fun p => keyD p.1)
  | _, _, .nil => rfl
  | _, _, .cons a r => by rw [List.map_cons, List.map_cons, dakv_keys r]
theorem dakv_vals {b : Bool} {K : PySem.W.Frag} {H : Hp} : ∀ {kvs : List (Key × V)} {dk : List (PyData × PyData)}, DaKvF b K H kvs dk → DaAllF b K H (kvs.map (·.2)) (dk.map (·.2))
  | _, _, .nil => .nil
  | _, _, .cons a r => .cons a (dakv_vals r)
theorem kv_keys : ∀ {kvs : List (Key × V)} {vs : List (Key × Value)}, KV kvs vs → kvs.map (fun p => keyD p.1) = vs.map (fun p => keyD p.1)
  | _, _, .nil => rfl
  | _, _, .cons a r => by rw [List.map_cons, List.map_cons, kv_keys r, a.1]
theorem kv_vals : ∀ {kvs : List (Key × V)} {vs : List (Key × Value)}, KV kvs vs → Vals (kvs.map (·.2)) (vs.map (·.2))
  | _, _, .nil => .nil
  | _, _, .cons a r => .cons a.2 (kv_vals r)
theorem pairs_vals {P : Program} {w : World} : ∀ {es : List DictEntry} {vs : List (Key × Value)}, Pairs (mixKind P w) es vs → es.map (·.val) = vs.map (·.2)
  | _, _, .nil => rfl
  | _, _, .cons _ hv r => by rw [List.map_cons, List.map_cons, hv, pairs_vals r]
section
variable {X : Cx} {pins : List (Addr × Obj)} {σ : L2.St} {H : Hp} {s : Shared}
mutual
theorem DaF.reads {b : Bool} (I : Inv X pins σ H s) : ∀ (d : PyData) (v : V) (u : Value), DaF b X.K H v d → RelV v u → ∃ as, Reads s.heap u d as ∧ (b = true → sysModules ∉ as)
  | .none, _, _, h, r => by
    cases h; cases r
    exact ⟨_, Reads.none, fun _ => by simp⟩
  | .bool b, _, _, h, r => by
    cases h; cases r
    exact ⟨_, Reads.bool b, fun _ => by simp⟩
  | .int i, _, _, h, r => by
    cases h
    obtain ⟨t, rfl⟩ := r
    exact ⟨_, Reads.int i t, fun _ => by simp⟩
  | .str x, _, _, h, r => by
    cases h
    obtain ⟨t, rfl⟩ := r
    exact ⟨_, Reads.str x t, fun _ => by simp⟩
  | .list ds, _, _, h, r => by
    cases h with
    | lst hq hne ha =>
      cases r
      obtain ⟨its, rv, ⟨o, n, ho, hc, _, hd⟩, _⟩ := I.list hq
      obtain ⟨as, hr, hn⟩ := DaF.readsAll I ds _ its ha rv
      refine ⟨_, Reads.list ho hc hd hr, ?_⟩
      intro hb hm
      rcases List.mem_cons.mp hm with e | hm
      · exact hne hb e.symm
      · exact hn hb hm
  | .tuple ds, _, _, h, r => by
    cases h with
    | tup hq ha =>
      cases r
      obtain ⟨its, rv, ⟨o, ho, hc, n, hd⟩, _⟩ := I.tuple hq
      obtain ⟨as, hr, hn⟩ := DaF.readsAll I ds _ its ha rv
      exact ⟨_, Reads.tuple ho hc hd hr, hn⟩
  | .dict dk, _, _, h, r => by
    cases h with
    | dic hq ha =>
      cases r
      obtain ⟨_, hsys, vs, kv, o, es, ep, ho, hx, hd, _, hp, _⟩ := hq.ok I.hok
      obtain ⟨as1, r1, e1⟩ := kv_reads (h := s.heap) (kvs := []) (dk := dk) hp ((dakv_keys ha).trans (kv_keys kv))
      obtain ⟨as2, r2, hn⟩ := DaF.readsKv I dk _ (vs.map (·.2)) ha (kv_vals kv)
      subst e1
      refine ⟨_, Reads.dict ho hx.1 hd r1 (by rw [pairs_vals hp]; exact r2), ?_⟩
      intro hb hm
      rcases List.mem_append.mp hm with hm | hm
      · rcases List.mem_cons.mp hm with e | hm
        · rw [← e] at hsys; simp at hsys
        · simp at hm
      · exact hn hb hm
theorem DaF.readsAll {b : Bool} (I : Inv X pins σ H s) : ∀ (ds : List PyData) (vs : List V) (us : List Value), DaAllF b X.K H vs ds → Vals vs us → ∃ as, ReadsAll s.heap us ds as ∧ (b = true → sysModules ∉ as)
  | [], _, _, h, r => by
    cases h; cases r
    exact ⟨_, ReadsAll.nil, fun _ => by simp⟩
  | d :: ds, _, _, h, r => by
    cases h with
    | cons h1 h2 =>
      cases r with
      | cons r1 r2 =>
        obtain ⟨as, q1, n1⟩ := DaF.reads I d _ _ h1 r1
        obtain ⟨bs, q2, n2⟩ := DaF.readsAll I ds _ _ h2 r2
        exact ⟨_, ReadsAll.cons q1 q2, fun hb hm => (List.mem_append.mp hm).elim (n1 hb) (n2 hb)⟩
theorem DaF.readsKv {b : Bool} (I : Inv X pins σ H s) : ∀ (dk : List (PyData × PyData)) (kvs : List (Key × V)) (us : List Value), DaKvF b X.K H kvs dk → Vals (kvs.map (·.2)) us → ∃ as, ReadsAll s.heap us (dk.map (·.2)) as ∧ (b = true → sysModules ∉ as)
  | [], _, _, h, r => by
    cases h; cases r
    exact ⟨_, ReadsAll.nil, fun _ => by simp⟩
  | (_, d) :: dk, _, _, h, r => by
    cases h with
    | cons h1 h2 =>
      cases r with
      | cons r1 r2 =>
        obtain ⟨as, q1, n1⟩ := DaF.reads I d _ _ h1 r1
        obtain ⟨bs, q2, n2⟩ := DaF.readsKv I dk _ _ h2 r2
        exact ⟨_, ReadsAll.cons q1 q2, fun hb hm => (List.mem_append.mp hm).elim (n1 hb) (n2 hb)⟩
end
/-- what may be shown -/
structure Shw (d : PyData) : Prop where
  sh : d.showable = true
  dp : d.depth ≤ 20
  sz : d.shown.length ≤ sizeLine
theorem call_reprD (hgd : X.A.guards = some []) (hu : X.A.units + 100 < cLine) : CallR X (.builtin "repr") (fun xs H Q => ∃ b v d, xs = [v] ∧ DaF b X.K H v d ∧ (b = true ∨ d.hasDict = false) ∧ Shw d ∧ Q (.str d.shown) H) := by
  intro pins s σ H xs us Q I r h
  obtain ⟨b, v, d, rfl, hd, hb, hw, q⟩ := h
  obtain ⟨u, rfl, rv⟩ := vals1 r
  cases hd with
  | non =>
    cases rv
    refine PySem.P.repr_of_none ⟨.str _, H, I.tok _, ⟨_, rfl⟩, ?_⟩
    simpa only [PyData.shown] using q
  | bl b =>
    cases rv
    refine PySem.P.repr_of_bool ⟨.str _, H, I.tok _, ⟨_, rfl⟩, ?_⟩
    simpa only [PyData.shown] using q
  | int i =>
    obtain ⟨t, rfl⟩ := rv
    refine PySem.P.repr_of_int (by have := hw.sh; simpa [PyData.showable] using this) ⟨.str _, H, I.tok _, ⟨_, rfl⟩, ?_⟩
    simpa only [PyData.shown] using q
  | str x =>
    obtain ⟨t, rfl⟩ := rv
    refine PySem.P.repr_of_str ⟨.str _, H, I.tok _, ⟨_, rfl⟩, ?_⟩ (by have := hw.sz; simpa only [PyData.shown] using this)
    simpa only [PyData.shown] using q
  | lst h1 h0 h2 =>
    obtain ⟨as, hR, hn⟩ := DaF.reads I _ _ _ (.lst h1 h0 h2) rv
    cases rv
    exact repr_of_reads' hR hw.sh (fun z => hn (hb.resolve_right (by rw [z]; exact Bool.noConfusion))) hgd (by have := hw.dp; omega) (fun _ _ e => e) (fun h' u tk k => ⟨.str _, H, I.kept k, ⟨_, rfl⟩, q⟩) hw.sz
  | tup h1 h2 =>
    obtain ⟨as, hR, hn⟩ := DaF.reads I _ _ _ (.tup h1 h2) rv
    cases rv
    exact repr_of_reads' hR hw.sh (fun z => hn (hb.resolve_right (by rw [z]; exact Bool.noConfusion))) hgd (by have := hw.dp; omega) (fun _ _ e => e) (fun h' u tk k => ⟨.str _, H, I.kept k, ⟨_, rfl⟩, q⟩) hw.sz
  | dic h1 h2 =>
    obtain ⟨as, hR, hn⟩ := DaF.reads I _ _ _ (.dic h1 h2) rv
    cases rv
    exact repr_of_reads' hR hw.sh (fun z => hn (hb.resolve_right (by rw [z]; exact Bool.noConfusion))) hgd (by have := hw.dp; omega) (fun _ _ e => e) (fun h' u tk k => ⟨.str _, H, I.kept k, ⟨_, rfl⟩, q⟩) hw.sz
end
abbrev Da := DaF false
abbrev DaAll := DaAllF false
abbrev DaKv := DaKvF false
abbrev DaS := DaF true
abbrev DaAllS := DaAllF true
theorem Da.lst {K : PySem.W.Frag} {H : Hp} {a : Addr} {xs : List V} {ds : List PyData} (h : SqL K H a xs) (k : DaAll K H xs ds) : Da K H (.ref a) (.list ds) := DaF.lst h Bool.noConfusion k
mutual
theorem DaF.da {b : Bool} {K : PySem.W.Frag} {H : Hp} : ∀ {v : V} {d : PyData}, DaF b K H v d → Da K H v d
  | _, _, .non => DaF.non
  | _, _, .bl c => DaF.bl c
  | _, _, .int i => DaF.int i
  | _, _, .str x => DaF.str x
  | _, _, .lst h _ a => DaF.lst h Bool.noConfusion (DaAllF.da a)
  | _, _, .tup h a => DaF.tup h (DaAllF.da a)
  | _, _, .dic h a => DaF.dic h (DaKvF.da a)
theorem DaAllF.da {b : Bool} {K : PySem.W.Frag} {H : Hp} : ∀ {vs : List V} {ds : List PyData}, DaAllF b K H vs ds → DaAll K H vs ds
  | _, _, .nil => DaAllF.nil
  | _, _, .cons a r => DaAllF.cons (DaF.da a) (DaAllF.da r)
theorem DaKvF.da {b : Bool} {K : PySem.W.Frag} {H : Hp} : ∀ {kvs : List (Key × V)} {ds : List (PyData × PyData)}, DaKvF b K H kvs ds → DaKv K H kvs ds
  | _, _, .nil => DaKvF.nil
  | _, _, .cons a r => DaKvF.cons (DaF.da a) (DaKvF.da r)
end
end KX

namespace KX
open PySem PySem.Spec PyProof.Rows L2
/-! ### the readings, by their heads: one row a reading, for a stepping that looks at the head alone -/
theorem Same.get {H H' : Hp} {a : Addr} {o : HO} (s : Same H H') (h : H a = some o) : H' a = some o := s _ _ h
/-- all but what stands at r is as it was -/
def Off (r : Addr) (H H' : Hp) : Prop := ∀ b o, b ≠ r → H b = some o → H' b = some o
theorem Off.get {r : Addr} {H H' : Hp} {a : Addr} {o : HO} (s : Off r H H') (n : a ≠ r) (h : H a = some o) : H' a = some o := s _ _ n h
theorem Off.refl (r : Addr) (H : Hp) : Off r H H := fun _ _ _ e => e
theorem Off.trans {r : Addr} {H H1 H2 : Hp} (a : Off r H H1) (b : Off r H1 H2) : Off r H H2 := fun c o n e => b c o n (a c o n e)
theorem Off.of_same {r : Addr} {H H' : Hp} (a : Same H H') : Off r H H' := fun c o _ e => a c o e
theorem off_upd {r : Addr} {H : Hp} {o : HO} : Off r H (L2.upd H r o) := fun c u n e => by
  rw [upd_ne n]; exact e
theorem same_new {H : Hp} {p : Addr} {o : HO} (h : H p = none) : Same H (L2.upd H p o) := fun b x e => by
  rw [upd_ne (ne_of_none e h)]; exact e
/-- what is written at an address that was free leaves all as it was -/
theorem Off.new {p : Addr} {H H1 H2 : Hp} (n : H p = none) (a : Same H H1) (b : Off p H1 H2) : Same H H2 := fun c o e => b c o (ne_of_none e n) (a c o e)
theorem Off.thenS {r : Addr} {H H1 H2 : Hp} (b : Same H1 H2) (a : Off r H H1) : Off r H H2 := a.trans (.of_same b)
theorem Off.thenO {r : Addr} {H H1 H2 : Hp} (b : Off r H1 H2) (a : Off r H H1) : Off r H H2 := a.trans b
theorem Off.thenF {r p : Addr} {H H0 H1 H2 : Hp} (b : Off p H1 H2) (n : H0 p = none) (a0 : Off r H H0) (a : Off r H H1) : Off r H H2 := fun c o hc e => b c o (ne_of_none (a0 c o hc e) n) (a c o hc e)
theorem Same.thenS {H H1 H2 : Hp} (b : Same H1 H2) (a : Same H H1) : Same H H2 := a.trans b
theorem Same.thenF {p : Addr} {H H0 H1 H2 : Hp} (b : Off p H1 H2) (n : H0 p = none) (a0 : Same H H0) (a : Same H H1) : Same H H2 := fun c o e => b c o (ne_of_none (a0 c o e) n) (a c o e)
theorem ne_some {H : Hp} {a b : Addr} {o : HO} (h' : H b = none) (h : H a = some o) : a ≠ b := ne_of_none h h'
/-- a new object: what follows, in the rules' form and over a heap that is told by what it holds -/
def NewR (H : Hp) (o : HO) (Q : VK) : Prop := ∀ p, H p = none → Q (.ref p) (upd H p o)
def New (H : Hp) (o : HO) (Q : VK) : Prop := ∀ p H', H p = none → Same H H' → H' p = some o → Q (.ref p) H'
theorem i_new {H : Hp} {o : HO} {Q : VK} (q : ∀ p H', H p = none → Same H H' → H' p = some o → Q (.ref p) H') : NewR H o Q := fun p hp => q p _ hp (same_new hp) upd_same
def PutR (H : Hp) (p : Addr) (o : HO) (R : Hp → Prop) : Prop := R (upd H p o)
theorem i_put {H : Hp} {p : Addr} {o : HO} {R : Hp → Prop} (q : ∀ H', Off p H H' → H' p = some o → R H') : PutR H p o R := q _ off_upd upd_same
def DispR (trs : List (TE × TE)) (σ : L2.St) (H : Hp) (Q : VK) : Prop := ∀ p, H p = none → tPairs trs σ (upd H p (.dK [])) fun ps H2 => H2 p = some (.dK []) ∧ ∃ kvs : List (Key × V), ps = kvs.map (fun kv => (kV kv.1, kv.2)) ∧ kvs.length ≤ 15 ∧ PutR H2 p (.dK (mergeK [] kvs)) (Q (.ref p))
theorem i_dispR {trs : List (TE × TE)} {σ : L2.St} {H : Hp} {Q : VK} (q : ∀ p H1, H p = none → Same H H1 → H1 p = some (.dK []) → tPairs trs σ H1 fun ps H2 => H2 p = some (.dK []) ∧ ∃ kvs : List (Key × V), ps = kvs.map (fun kv => (kV kv.1, kv.2)) ∧ kvs.length ≤ 15 ∧ PutR H2 p (.dK (mergeK [] kvs)) (Q (.ref p))) : DispR trs σ H Q := fun p hp => q p _ hp (same_new hp) upd_same
/-- loops and comprehensions over an iterator J -/
def ForR (J : It) (g : TG) (tb : TS) (D : Ends) (σ : L2.St) (H : Hp) : Prop := ∃ W : Nat → Nat → L2.St → Hp → Prop, (∃ m, W 0 m σ H) ∧ ∀ i m σ H, W i m σ H →
  (J.stop i H ∧ D.nx σ H) ∨ (J.go i H ∧ ∃ N : L2.St → Hp → Prop, (∀ σ' H', N σ' H' → ∃ m', m' < m ∧ W (i + 1) m' σ' H') ∧ ∀ x H', J.yld i H x H' → g x σ H' fun σ2 H2 => tb { D with nx := N, ct := N, bk := D.nx } σ2 H2)
def LcR (J : It) (g : TG) (tt : TT) (te : TE) (vs : List Nat) (σ : L2.St) (H1 : Hp) (Q : VK) : Prop := ∀ D, H1 D = none → ∃ W : Nat → Nat → Hp → Prop, (∃ m, W 0 m (upd H1 D (.lst []))) ∧ ∀ i m H, W i m H →
  (J.stop i H ∧ Q (.ref D) H) ∨ (J.go i H ∧ ∃ Nx : Hp → Prop, (∀ H', Nx H' → ∃ m', m' < m ∧ W (i + 1) m' H') ∧ ∀ x H', J.yld i H x H' → g x (wipe σ vs) H' fun σ2 H2 => wipe σ2 vs = wipe σ vs ∧ tt σ2 H2 fun b H3 =>
    if b = true then te σ2 H3 fun y H4 => ∃ acc, H4 D = some (.lst acc) ∧ acc.length < sizeLine ∧ Nx (upd H4 D (.lst (acc ++ [y]))) else Nx H3)
/-- J walks the items xs while G stands -/
structure Wk (J : It) (xs : List V) (G : Hp → Prop) : Prop where
  go : ∀ i H, G H → i < xs.length → J.go i H
  yl : ∀ i H x H', G H → J.yld i H x H' → i < xs.length → H' = H ∧ xs[i]? = some x
  st : ∀ i H, G H → xs.length ≤ i → J.stop i H
theorem wk_list {K : PySem.W.Frag} {a : Addr} {xs : List V} : Wk (Itl K a) xs fun H => SqL K H a xs where
  go := fun i H g h => ⟨xs, xs[i], g, by simp [h]⟩
  yl := fun i H x H' g y _ => ⟨y.1, y.2 xs g⟩
  st := fun i H g h => ⟨xs, g, h⟩
theorem wk_tup {K : PySem.W.Frag} {a : Addr} {xs : List V} : Wk (Itt K a) xs fun H => SqT K H a xs where
  go := fun i H g h => ⟨xs, xs[i], g, by simp [h]⟩
  yl := fun i H x H' g y _ => ⟨y.1, y.2 xs g⟩
  st := fun i H g h => ⟨xs, g, h⟩
def rangeV (lo : Int) (n : Nat) : List V := (List.range n).map fun i : Nat => V.int (lo + i)
theorem rangeV_len (lo : Int) (n : Nat) : (rangeV lo n).length = n := by simp [rangeV]
theorem rangeV_get {lo : Int} {n i : Nat} (h : i < n) : (rangeV lo n)[i]? = some (V.int (lo + i)) := by simp [rangeV, h]
theorem wk_range {lo : Int} {n : Nat} : Wk (Itr lo n) (rangeV lo n) fun _ => True where
  go := fun i H _ h => by rw [rangeV_len] at h; exact h
  yl := fun i H x H' _ y h => ⟨y.1, by rw [rangeV_len] at h; rw [rangeV_get h, y.2]⟩
  st := fun i H _ h => by rw [rangeV_len] at h; exact h
def signsV (x : Str) : List V := x.cps.toList.map fun c => V.str ⟨#[c]⟩
theorem signsV_len (x : Str) : (signsV x).length = x.cps.size := by simp [signsV]
theorem wk_str {x : Str} : Wk (Its x) (signsV x) fun _ => True where
  go := fun i H _ h => by rw [signsV_len] at h; exact h
  yl := fun i H v H' _ y h => by
    obtain ⟨e, c, hc, hv⟩ := y
    refine ⟨e, ?_⟩
    rw [hv]
    simp [signsV, hc]
  st := fun i H _ h => by rw [signsV_len] at h; exact h
theorem f_wk {J : It} {xs : List V} {G : Hp → Prop} (W : Wk J xs G) {g : TG} {tb : TS} {f b k : L2.St → Hp → Prop} {Q : VK} {σ : L2.St} {H : Hp} (Pv : Nat → L2.St → Hp → Prop) (h0 : Pv 0 σ H) (hG : ∀ i σ H, Pv i σ H → G H)
    (hs : ∀ i x σ H, xs[i]? = some x → Pv i σ H → g x σ H fun σ2 H2 => tb ⟨Pv (i + 1), Q, f, Pv (i + 1)⟩ σ2 H2) (hd : ∀ σ H, Pv xs.length σ H → f σ H) : ForR J g tb ⟨f, Q, b, k⟩ σ H := by
  refine ⟨fun i m σ H => m = xs.length - i ∧ i ≤ xs.length ∧ Pv i σ H, ⟨xs.length, by simp, Nat.zero_le _, h0⟩, ?_⟩
  rintro i m σ H ⟨rfl, hi, p⟩
  by_cases hlt : i < xs.length
  · refine .inr ⟨W.go i H (hG _ _ _ p) hlt, Pv (i + 1), fun σ' H' p' => ⟨xs.length - (i + 1), by omega, rfl, hlt, p'⟩, fun x H' y => ?_⟩
    obtain ⟨e, y2⟩ := W.yl i H x H' (hG _ _ _ p) y hlt
    subst e
    exact hs i x σ _ y2 p
  · have e : i = xs.length := by omega
    subst e
    exact .inl ⟨W.st _ H (hG _ _ _ p) (Nat.le_refl _), hd σ H p⟩
/-- the comprehension's list gets its next item -/
def LcEl (D : Addr) (P1 : List V → Hp → Prop) (y : V) (H4 : Hp) : Prop := ∃ acc, H4 D = some (.lst acc) ∧ acc.length < sizeLine ∧ PutR H4 D (.lst (acc ++ [y])) fun H => ∃ ys, P1 ys H
theorem i_lcEl {D : Addr} {P1 : List V → Hp → Prop} {y : V} {H : Hp} {acc : List V} (h : H D = some (.lst acc)) (z : acc.length < sizeLine) (q : ∀ H', Off D H H' → H' D = some (.lst (acc ++ [y])) → P1 (acc ++ [y]) H') : LcEl D P1 y H :=
  ⟨acc, h, z, _, q _ off_upd upd_same⟩
theorem l_wk {J : It} {xs : List V} {G : Hp → Prop} (W : Wk J xs G) {g : TG} {tt : TT} {te : TE} {vs : List Nat} {Q : VK} {σ : L2.St} {H1 : Hp}
    (q : ∀ D H0, H1 D = none → Same H1 H0 → H0 D = some (.lst []) → ∃ Pv : Nat → List V → Hp → Prop, Pv 0 [] H0 ∧ (∀ i ys H, Pv i ys H → G H) ∧
      (∀ i ys x H, xs[i]? = some x → Pv i ys H → g x (wipe σ vs) H fun σ2 H2 => wipe σ2 vs = wipe σ vs ∧ tt σ2 H2 fun b H3 =>
        if b = true then te σ2 H3 fun y H4 => LcEl D (Pv (i + 1)) y H4 else ∃ ys, Pv (i + 1) ys H3) ∧
      (∀ ys H, Pv xs.length ys H → Q (.ref D) H)) : LcR J g tt te vs σ H1 Q := by
  intro D hD
  obtain ⟨Pv, h0, hG, hs, hd⟩ := q D _ hD (same_new hD) upd_same
  refine ⟨fun i m H => m = xs.length - i ∧ i ≤ xs.length ∧ ∃ ys, Pv i ys H, ⟨xs.length, by simp, Nat.zero_le _, _, h0⟩, ?_⟩
  rintro i m H ⟨rfl, hi, ys, p⟩
  by_cases hlt : i < xs.length
  · refine .inr ⟨W.go i H (hG _ _ _ p) hlt, fun H => ∃ ys, Pv (i + 1) ys H, fun H' p' => ⟨xs.length - (i + 1), by omega, rfl, hlt, p'⟩, fun x H' y => ?_⟩
    obtain ⟨e, y2⟩ := W.yl i H x H' (hG _ _ _ p) y hlt
    subst e
    exact hs i ys x _ y2 p
  · have e : i = xs.length := by omega
    subst e
    exact .inl ⟨W.st _ H (hG _ _ _ p) (Nat.le_refl _), hd ys H p⟩
/-- a comprehension whose test and element change nothing of what was tracked: what it lists -/
theorem l_filter {J : It} {xs : List V} {G : Hp → Prop} (W : Wk J xs G) {g : TG} {tt : TT} {te : TE} {vs : List Nat} {Q : VK} {σ : L2.St} {H1 : Hp} (p : V → Bool) (F : V → V) (hlen : xs.length < sizeLine) (hG : ∀ H', Same H1 H' → G H')
    (hs : ∀ (i : Nat) x H' (R : VK) (N : Hp → Prop), xs[i]? = some x → Same H1 H' → (p x = true → ∀ H'', Same H' H'' → R (F x) H'') → (p x = false → ∀ H'', Same H' H'' → N H'') →
      g x (wipe σ vs) H' fun σ2 H2 => wipe σ2 vs = wipe σ vs ∧ tt σ2 H2 fun b H3 => if b = true then te σ2 H3 R else N H3)
    (q : ∀ D H', H1 D = none → Same H1 H' → H' D = some (.lst ((xs.filter p).map F)) → Q (.ref D) H') : LcR J g tt te vs σ H1 Q := by
  refine l_wk W fun D H0 n0 s0 e0 => ⟨fun i ys H => Same H1 H ∧ H D = some (.lst ys) ∧ ys = ((xs.take i).filter p).map F ∧ ys.length ≤ i, ⟨s0, e0, rfl, Nat.le_refl _⟩, fun i ys H h => hG _ h.1, fun i ys x H hx h => ?_, fun ys H h => ?_⟩
  · obtain ⟨s1, e1, hy, hl⟩ := h
    have hi : i < xs.length := by
      have := List.getElem?_eq_some_iff.mp hx
      exact this.1
    have ht : xs.take (i + 1) = xs.take i ++ [x] := by rw [List.take_add_one, hx]; rfl
    refine hs i x H (fun y H4 => LcEl D (fun ys H => Same H1 H ∧ H D = some (.lst ys) ∧ ys = ((xs.take (i + 1)).filter p).map F ∧ ys.length ≤ i + 1) y H4) (fun H3 => ∃ ys, Same H1 H3 ∧ H3 D = some (.lst ys) ∧ ys = ((xs.take (i + 1)).filter p).map F ∧ ys.length ≤ i + 1) hx s1 (fun hp H'' s2 => ?_) fun hp H'' s2 => ?_
    · refine i_lcEl (s2 _ _ e1) (by omega) fun H5 o5 e5 => ⟨Off.new n0 (s1.trans s2) o5, e5, ?_, by simp; omega⟩
      rw [ht, List.filter_append, List.map_append, hy]
      simp [hp]
    · refine ⟨ys, s1.trans s2, s2 _ _ e1, ?_, by omega⟩
      rw [ht, List.filter_append, List.map_append, hy]
      simp [hp]
  · obtain ⟨s1, e1, hy, hl⟩ := h
    rw [List.take_length] at hy
    rw [hy] at e1
    exact q D H n0 s1 e1
theorem l_map {J : It} {xs : List V} {G : Hp → Prop} (W : Wk J xs G) {g : TG} {te : TE} {vs : List Nat} {Q : VK} {σ : L2.St} {H1 : Hp} (F : V → V) (hlen : xs.length < sizeLine) (hG : ∀ H', Same H1 H' → G H')
    (hs : ∀ (i : Nat) x H' (R : VK), xs[i]? = some x → Same H1 H' → (∀ H'', Same H' H'' → R (F x) H'') → g x (wipe σ vs) H' fun σ2 H2 => wipe σ2 vs = wipe σ vs ∧ te σ2 H2 R)
    (q : ∀ D H', H1 D = none → Same H1 H' → H' D = some (.lst (xs.map F)) → Q (.ref D) H') : LcR J g tYes te vs σ H1 Q := by
  refine l_filter W (fun _ => true) F hlen hG (fun i x H' R N hx s1 hR _ => ?_) (fun D H' n s e => q D H' n s (by rw [e, List.filter_eq_self.mpr (by simp)]))
  have e : (fun (σ2 : L2.St) H2 => wipe σ2 vs = wipe σ vs ∧ tYes σ2 H2 fun b H3 => if b = true then te σ2 H3 R else N H3) = fun σ2 H2 => wipe σ2 vs = wipe σ vs ∧ te σ2 H2 R := by
    funext σ2 H2
    show (_ ∧ if true = true then te σ2 H2 R else N H2) = _
    rw [if_pos rfl]
  rw [e]
  exact hs i x H' R hx s1 (hR rfl)
section
variable {K : PySem.W.Frag} {σ σ' : L2.St} {H : Hp} {Q : VK} {D : Ends} {a b c : TE}
theorem i_var {i : Nat} {v : V} (h : σ[i]? = some (some v)) (q : Q v H) : tVar i σ H Q := ⟨v, h, q⟩
theorem i_c {v : V} (q : Q v H) : tC v σ H Q := q
theorem i_op {r : R2} (q : a σ H fun x H1 => b σ H1 fun y H2 => r x y H2 Q) : tOp r a b σ H Q := q
theorem i_un {r : V → Hp → VK → Prop} (q : a σ H fun x H1 => r x H1 Q) : tUn r a σ H Q := q
theorem i_rI {C : Int → Int → Prop} {g : Int → Int → V} {i j : Int} (c : C i j) (q : Q (g i j) H) : rI C g (.int i) (.int j) H Q := ⟨i, j, rfl, rfl, c, q⟩
theorem i_rI0 {g : Int → Int → V} {i j : Int} (q : Q (g i j) H) : rI0 g (.int i) (.int j) H Q := ⟨i, j, rfl, rfl, q⟩
theorem i_rU {g : Int → V} {i : Int} (q : Q (g i) H) : rU g (.int i) H Q := ⟨i, rfl, q⟩
theorem i_rEq {x y : V} (h : scal x y = true) (q : Q (.bl (decide (x = y))) H) : rEq x y H Q := ⟨h, q⟩
theorem i_rNe {x y : V} (h : scal x y = true) (q : Q (.bl (!decide (x = y))) H) : rNe x y H Q := ⟨h, q⟩
theorem i_rIxL {p : Addr} {xs : List V} {i : Int} {v : V} (h : SqL K H p xs) (e : atI xs i = some v) (q : Q v H) : rIxL K (.ref p) (.int i) H Q := ⟨p, xs, i, v, rfl, rfl, h, e, q⟩
theorem i_rIxT {p : Addr} {xs : List V} {i : Int} {v : V} (h : SqT K H p xs) (e : atI xs i = some v) (q : Q v H) : rIxT K (.ref p) (.int i) H Q := ⟨p, xs, i, v, rfl, rfl, h, e, q⟩
theorem i_rIxS {z : Str} {i : Int} {c : Nat} (h : z.length ≤ sizeLine) (e : atI z.cps.toList i = some c) (q : Q (.str ⟨#[c]⟩) H) : rIxS (.str z) (.int i) H Q := ⟨z, i, c, rfl, rfl, h, e, q⟩
theorem i_rSlS {z : Str} {lo hi : Option Int} (h : z.length ≤ sizeLine) (q : Q (.str (cutS z lo hi)) H) : rSlS (.str z) lo hi H Q := ⟨z, rfl, h, q⟩
theorem i_rSlL {p : Addr} {xs : List V} {lo hi : Option Int} (h : SqL K H p xs) (q : NewR H (.lst (cutV xs lo hi)) Q) : rSlL K (.ref p) lo hi H Q := ⟨p, xs, rfl, h, q⟩
theorem i_noPart {R : Option Int → Hp → Prop} (q : R none H) : tNoPart σ H R := q
theorem i_part {R : Option Int → Hp → Prop} (q : a σ H fun x H1 => ∃ i, x = .int i ∧ R (some i) H1) : tPart a σ H R := q
theorem i_sl {r : V → Option Int → Option Int → Hp → VK → Prop} {tl th : TO} (q : a σ H fun x H1 => tl σ H1 fun l H2 => th σ H2 fun u H3 => r x l u H3 Q) : tSl r a tl th σ H Q := q
theorem i_test {R : Bool → Hp → Prop} (q : a σ H fun x H1 => ∃ k, x = .bl k ∧ R k H1) : tTest a σ H R := q
theorem i_tB {R : Bool → Hp → Prop} (q : a σ H fun x H1 => ∃ k, x = .bl k ∧ R k H1) : tB a σ H R := q
theorem i_exbl {R : Bool → Hp → Prop} {k : Bool} (q : R k H) : ∃ k', V.bl k = .bl k' ∧ R k' H := ⟨k, rfl, q⟩
theorem i_exint {R : Int → Prop} {k : Int} (q : R k) : ∃ k', V.int k = .int k' ∧ R k' := ⟨k, rfl, q⟩
theorem i_and {t u : TT} {R : Bool → Hp → Prop} (q : t σ H fun c H1 => if c = true then u σ H1 R else R false H1) : tAnd t u σ H R := q
theorem i_or {t u : TT} {R : Bool → Hp → Prop} (q : t σ H fun c H1 => if c = true then R true H1 else u σ H1 R) : tOr t u σ H R := q
theorem i_not {t : TT} {R : Bool → Hp → Prop} (q : t σ H fun c H1 => R (!c) H1) : tNot t σ H R := q
theorem i_andV (q : a σ H fun x H1 => ∃ c, x = .bl c ∧ if c = true then b σ H1 Q else Q (.bl false) H1) : tAndV a b σ H Q := q
theorem i_orV (q : a σ H fun x H1 => ∃ c, x = .bl c ∧ if c = true then Q (.bl true) H1 else b σ H1 Q) : tOrV a b σ H Q := q
theorem i_notV (q : a σ H fun x H1 => ∃ c, x = .bl c ∧ Q (.bl (!c)) H1) : tNotV a σ H Q := q
theorem i_if {t : TT} (q : t σ H fun c H1 => if c = true then a σ H1 Q else b σ H1 Q) : tIf t a b σ H Q := q
theorem i_isN {x : V} (q : Q (.bl (decide (x = .non))) H) : (V.non = V.non ∧ Q (.bl (decide (x = .non))) H) := ⟨rfl, q⟩
theorem i_chain {r r' : R2} (q : a σ H fun x H1 => b σ H1 fun y H2 => r x y H2 fun z H3 => ∃ k, z = .bl k ∧ (if k = true then c σ H3 fun w' H4 => r' y w' H4 Q else Q (.bl false) H3)) : tChain r r' a b c σ H Q := q
theorem i_next {f g k : L2.St → Hp → Prop} (q : f σ H) : tNext ⟨f, Q, g, k⟩ σ H := q
theorem i_seq {t u : TS} {f g k : L2.St → Hp → Prop} (q : t ⟨u ⟨f, Q, g, k⟩, Q, g, k⟩ σ H) : tSeq t u ⟨f, Q, g, k⟩ σ H := q
theorem i_drop {f g k : L2.St → Hp → Prop} (q : a σ H fun _ H1 => f σ H1) : tDrop a ⟨f, Q, g, k⟩ σ H := q
theorem i_ret {f g k : L2.St → Hp → Prop} (q : a σ H Q) : tRet a ⟨f, Q, g, k⟩ σ H := q
theorem i_retN {f g k : L2.St → Hp → Prop} (q : Q .non H) : tRetN ⟨f, Q, g, k⟩ σ H := q
theorem i_ifS {c : TT} {t u : TS} (q : c σ H fun b H1 => if b = true then t D σ H1 else u D σ H1) : tIfS c t u D σ H := q
theorem i_asg {g : TG} {f g1 k : L2.St → Hp → Prop} (q : a σ H fun x H1 => g x σ H1 f) : tAsg a g ⟨f, Q, g1, k⟩ σ H := q
theorem i_par {i j : Nat} {t : TA} {f g1 k : L2.St → Hp → Prop} (q : t σ H fun vs H1 => ∃ v w, vs = [v, w] ∧ f ((σ.set i (some v)).set j (some w)) H1) : tPar i j t ⟨f, Q, g1, k⟩ σ H := q
theorem i_ex2 {R : V → V → Prop} {v w : V} (q : R v w) : ∃ v' w', [v, w] = [v', w'] ∧ R v' w' := ⟨v, w, rfl, q⟩
theorem i_aug {i : Nat} {x : V} {ti : TIp} {f g1 k : L2.St → Hp → Prop} (h : σ[i]? = some (some x)) (q : a σ H fun y H1 => ti x y H1 fun z H2 => f (σ.set i (some z)) H2) : tAug i a ti ⟨f, Q, g1, k⟩ σ H := ⟨x, h, q⟩
theorem i_gName {i : Nat} {v : V} {R : L2.St → Hp → Prop} (h : σ.set i (some v) = σ') (q : R σ' H) : gName i v σ H R := by
  subst h; exact q
theorem i_gNil {R : L2.St → Hp → Prop} (q : R σ H) : gNil [] σ H R := ⟨rfl, q⟩
theorem i_gCons {v : V} {r : List V} {g : TG} {u : TGs} {R : L2.St → Hp → Prop} (q : g v σ H fun s h => u r s h R) : gCons g u (v :: r) σ H R := ⟨v, r, rfl, q⟩
theorem i_gTup {p : Addr} {xs : List V} {n : Nat} {t : TGs} {R : L2.St → Hp → Prop} (h : SqT K H p xs) (e : xs.length = n) (q : t xs σ H R) : gTup K n t (.ref p) σ H R := ⟨p, xs, rfl, h, e, q⟩
theorem i_gSub {v : V} {t : TSet} {R : L2.St → Hp → Prop} (q : a σ H fun o H1 => b σ H1 fun i H2 => t o i v H2 fun H3 => R σ H3) : gSub a b t v σ H R := q
theorem i_rSetL {p : Addr} {xs : List V} {k : Int} {j : Nat} {v : V} {R : Hp → Prop} (h : H p = some (.lst xs)) (e : ixN xs.length k = some j) (q : PutR H p (.lst (xs.set j v)) R) : rSetL (.ref p) (.int k) v H R := ⟨p, xs, k, j, rfl, rfl, h, e, q⟩
theorem i_nil {R : List V → Hp → Prop} (q : R [] H) : tNil σ H R := q
theorem i_cons {t : TA} {R : List V → Hp → Prop} (q : a σ H fun x H1 => t σ H1 fun xs H2 => R (x :: xs) H2) : tCons a t σ H R := q
theorem i_tup {t : TA} (q : t σ H fun xs H1 => xs.length ≤ sizeLine ∧ NewR H1 (.tup xs) Q) : tTup t σ H Q := q
theorem i_lst {t : TA} (q : t σ H fun xs H1 => xs.length ≤ sizeLine ∧ NewR H1 (.lst xs) Q) : tLst t σ H Q := q
theorem i_newDK (q : NewR H (.dK []) Q) : tDNewK σ H Q := q
theorem i_disp {trs : List (TE × TE)} (q : DispR trs σ H Q) : tDisp trs σ H Q := q
theorem i_pairs0 {R : List (V × V) → Hp → Prop} (q : R [] H) : tPairs [] σ H R := q
theorem i_pairs1 {r : List (TE × TE)} {R : List (V × V) → Hp → Prop} (q : a σ H fun x H1 => b σ H1 fun y H2 => tPairs r σ H2 fun ps H3 => R ((x, y) :: ps) H3) : tPairs ((a, b) :: r) σ H R := q
theorem i_call {sp : Sp} {dvs : List V} {E : XK} {t : TA} (q : t σ H fun vs H1 => sp (vs ++ dvs) H1 Q E) : tCall sp dvs E t σ H Q := q
theorem i_cb {r : List V → Hp → VK → Prop} {t : TA} (q : t σ H fun vs H1 => r vs H1 Q) : tCB r t σ H Q := q
theorem i_bm {T : String} {r : V → List V → Hp → VK → Prop} {t : TA} (q : a σ H fun x H1 => tyV K T x H1 ∧ t σ H1 fun xs H2 => r x xs H2 Q) : tBM K T r a t σ H Q := q
theorem i_m1 {r : V → List V → Hp → VK → Prop} (q : a σ H fun x H1 => (∃ a, x = .str a) ∧ b σ H1 fun y H2 => r x [y] H2 Q) : tM1 r a b σ H Q := q
theorem i_m0 {r : V → List V → Hp → VK → Prop} (q : a σ H fun x H1 => (∃ a, x = .str a) ∧ r x [] H1 Q) : tM0 r a σ H Q := q
theorem i_rAppend {l : Addr} {xs : List V} {y : V} (h : H l = some (.lst xs)) (z : xs.length < sizeLine) (q : PutR H l (.lst (xs ++ [y])) (Q .non)) : rAppend (.ref l) [y] H Q := ⟨l, xs, y, rfl, rfl, h, z, q⟩
theorem i_rAll {p : Addr} {bs : List Bool} (h : SqL K H p (bs.map V.bl)) (q : Q (.bl (bs.all id)) H) : rAll K [.ref p] H Q := ⟨p, bs, rfl, h, q⟩
theorem i_rAny {p : Addr} {bs : List Bool} (h : SqL K H p (bs.map V.bl)) (q : Q (.bl (bs.any id)) H) : rAny K [.ref p] H Q := ⟨p, bs, rfl, h, q⟩
theorem i_rng1 {t : TA} {R : It → Hp → Prop} (q : t σ H fun vs H1 => ∃ j : Int, vs = [.int j] ∧ -(2 ^ 62) ≤ j ∧ j < 2 ^ 62 ∧ R (Itr 0 j.toNat) H1) : iRng1 t σ H R := q
theorem i_exrng {R : It → Hp → Prop} {j : Int} (h1 : -(2 ^ 62) ≤ j) (h2 : j < 2 ^ 62) (q : R (Itr 0 j.toNat) H) : ∃ j' : Int, [V.int j] = [.int j'] ∧ -(2 ^ 62) ≤ j' ∧ j' < 2 ^ 62 ∧ R (Itr 0 j'.toNat) H := ⟨j, rfl, h1, h2, q⟩
theorem i_iList {R : It → Hp → Prop} (q : a σ H fun x H1 => ∃ p, x = .ref p ∧ (∃ xs, SqL K H1 p xs) ∧ R (Itl K p) H1) : iList K a σ H R := q
theorem i_exl {R : It → Hp → Prop} {p : Addr} {xs : List V} (h : SqL K H p xs) (q : R (Itl K p) H) : ∃ p', V.ref p = .ref p' ∧ (∃ xs, SqL K H p' xs) ∧ R (Itl K p') H := ⟨p, rfl, ⟨xs, h⟩, q⟩
theorem i_iStr {R : It → Hp → Prop} (q : a σ H fun v H1 => ∃ x, v = .str x ∧ R (Its x) H1) : iStr a σ H R := q
theorem i_exs {R : Str → Prop} {x : Str} (q : R x) : ∃ x', V.str x = .str x' ∧ R x' := ⟨x, rfl, q⟩
theorem i_for {wi : TI} {g : TG} {tb : TS} (q : wi σ H fun J H1 => ForR J g tb D σ H1) : tFor wi g tb D σ H := q
theorem i_lc {wi : TI} {g : TG} {tt : TT} {te : TE} {vs : List Nat} (q : wi σ H fun J H1 => LcR J g tt te vs σ H1 Q) : tLc wi g tt te vs σ H Q := q
theorem i_yes {R : Bool → Hp → Prop} (q : R true H) : tYes σ H R := q
theorem i_ite {c : Bool} {A B : Prop} (h1 : c = true → A) (h2 : c = false → B) : if c = true then A else B := by
  cases c with
  | true => rw [if_pos rfl]; exact h1 rfl
  | false => rw [if_neg Bool.false_ne_true]; exact h2 rfl
theorem i_iteT {A B : Prop} (h : A) : if true = true then A else B := by rw [if_pos rfl]; exact h
theorem i_iteF {A B : Prop} (h : B) : if false = true then A else B := by rw [if_neg Bool.false_ne_true]; exact h
/-- divmod, over a heap that is told by what it holds -/
def rDivmod : List V → Hp → VK → Prop := fun xs H Q => ∃ i j, xs = [.int i, .int j] ∧ CDivP i j ∧ NewR H (.tup [.int (i / j), .int (i % j)]) Q
theorem call_divmodN {X : Cx} : CallR X (.builtin "divmod") rDivmod := fun pins s σ H xs us Q I r ⟨i, j, e, c, q⟩ => call_divmodW pins s σ H xs us Q I r ⟨i, j, e, c, q⟩
theorem i_divmod {i j : Int} (c : CDivP i j) (q : NewR H (.tup [.int (i / j), .int (i % j)]) Q) : rDivmod [.int i, .int j] H Q := ⟨i, j, rfl, c, q⟩
theorem i_rCat {l b : Addr} {xs zs : List V} (h : H l = some (.lst xs)) (k : H b = some (.lst zs)) (z : xs.length + zs.length ≤ sizeLine) (q : NewR H (.lst (xs ++ zs)) Q) : rCat (.ref l) (.ref b) H Q := ⟨l, b, xs, zs, rfl, rfl, h, k, z, q⟩
def rCatS : R2 := fun x y H Q => ∃ i j, x = .str i ∧ y = .str j ∧ i.length + j.length ≤ sizeLine ∧ Q (.str (i ++ j)) H
theorem op_catS {X : Cx} : OpR X (binaryOp .Add) rCatS := op_add_str
theorem i_rCatS {i j : Str} (h : i.length + j.length ≤ sizeLine) (q : Q (.str (i ++ j)) H) : rCatS (.str i) (.str j) H Q := ⟨i, j, rfl, rfl, h, q⟩
def rJoin (K : PySem.W.Frag) : V → List V → Hp → VK → Prop := fun x xs H Q => ∃ a p, ∃ ys : List Str, x = .str a ∧ xs = [.ref p] ∧ (SqL K H p (ys.map V.str) ∨ SqT K H p (ys.map V.str)) ∧ (ys.map (·.length)).sum + ys.length * a.length ≤ 16777216 ∧ Q (.str (Txt.join a ys)) H
theorem pe_joinN {X : Cx} {o e : Expr} {to te : TE} {apos pos : Pos} (ho : PE X o to) (he : PE X e te) (hs : starEach [e] X.env = [(false, eval e X.env)] := by rfl) (hbase : attributeBase o "join" X.env (eval o X.env) = eval o X.env := by rfl) (hline : (apos.endLine == pos.line) = true := by rfl) :
    PE X (.Call (.Attribute o "join" apos) [e] [] pos) (tM1 (rJoin X.K) to te) := pe_join ho he hs hbase hline
theorem i_join {a : Str} {p : Addr} {ys : List Str} (h : SqL K H p (ys.map V.str)) (z : (ys.map (·.length)).sum + ys.length * a.length ≤ 16777216) (q : Q (.str (Txt.join a ys)) H) : rJoin K (.str a) [.ref p] H Q := ⟨a, p, ys, rfl, rfl, .inl h, z, q⟩
theorem i_exstr {x : Str} {R : Prop} (q : R) : (∃ a, V.str x = .str a) ∧ R := ⟨⟨x, rfl⟩, q⟩
end
end KX

namespace KX
open PySem PySem.Spec PyProof.Rows L2
/-! ### texts -/
def okS (x : Str) (n : Nat) : Prop := x.length ≤ n ∧ ∀ c ∈ x.cps.toList, c < 1114112
theorem okS.mono {x : Str} {n m : Nat} (h : okS x n) (k : n ≤ m) : okS x m := ⟨Nat.le_trans h.1 k, h.2⟩
theorem okS.app {x y : Str} {n m : Nat} (h : okS x n) (k : okS y m) : okS (x ++ y) (n + m) := by
  refine ⟨?_, fun c hc => ?_⟩
  · rw [Str.length_append]; have := h.1; have := k.1; omega
  · have e : (x ++ y).cps = x.cps ++ y.cps := rfl
    rw [e, Array.toList_append] at hc
    rcases List.mem_append.mp hc with hc | hc
    · exact h.2 c hc
    · exact k.2 c hc
theorem okS.cut {x : Str} {n : Nat} (h : okS x n) (lo hi : Option Int) : okS (cutS x lo hi) n := by
  refine ⟨?_, fun c hc => ?_⟩
  · have e : (cutS x lo hi).length = (cutS x lo hi).cps.toList.length := rfl
    have l : x.length = x.cps.toList.length := rfl
    rw [e]; unfold cutS
    show ((x.cps.toList.drop _).take _).length ≤ n
    rw [List.length_take, List.length_drop]
    have := h.1; omega
  · unfold cutS at hc
    exact h.2 c (List.mem_of_mem_drop (List.mem_of_mem_take hc))
theorem joinL_nil_len {b : Nat} : ∀ ps : List (List Nat), (∀ p ∈ ps, p.length ≤ b ∧ ∀ c ∈ p, c < 1114112) → (TL.joinL [] ps).length ≤ ps.length * b ∧ ∀ c ∈ TL.joinL [] ps, c < 1114112
  | [], _ => ⟨by simp [TL.joinL], by simp [TL.joinL]⟩
  | [p], h => by
    have := h p (by simp)
    simp only [TL.joinL, List.length_cons, List.length_nil]
    exact ⟨by omega, this.2⟩
  | p :: q :: r, h => by
    have h1 := h p (by simp)
    have ih := joinL_nil_len (q :: r) (fun x hx => h x (List.mem_cons_of_mem _ hx))
    simp only [TL.joinL, List.append_nil, List.nil_append, List.length_append, List.length_cons] at ih ⊢
    refine ⟨?_, fun c hc => ?_⟩
    · have e : (r.length + 1 + 1) * b = (r.length + 1) * b + b := by rw [Nat.add_mul (r.length + 1) 1 b, Nat.one_mul]
      omega
    · rcases List.mem_append.mp hc with hc | hc
      · exact h1.2 c hc
      · exact ih.2 c hc
theorem okS.joined {ys : List Str} {b : Nat} (h : ∀ y ∈ ys, okS y b) {s : Str} (hs : s.cps = #[]) : okS (Txt.join s ys) (ys.length * b) := by
  rw [TL.join_eq]
  have e := TL.tl_join s ys
  have e2 : TL.tl s = [] := by unfold TL.tl; rw [hs]
  rw [e2] at e
  have k := joinL_nil_len (b := b) (ys.map TL.tl) (fun p hp => by
    obtain ⟨y, hy, rfl⟩ := List.mem_map.mp hp
    exact ⟨(h y hy).1, (h y hy).2⟩)
  rw [← e, List.length_map] at k
  exact k
theorem okS.one {c : Nat} (h : c < 1114112) : okS ⟨#[c]⟩ 1 := ⟨Nat.le_refl _, fun d hd => by
  have : d = c := by simpa using hd
  rw [this]; exact h⟩
theorem okS.atI {x : Str} {n : Nat} (h : okS x n) {i : Int} {c : Nat} (e : atI x.cps.toList i = some c) : okS ⟨#[c]⟩ 1 := by
  unfold L2.atI at e
  cases q : ixN x.cps.toList.length i with
  | none => rw [q] at e; cases e
  | some j =>
    rw [q] at e
    exact okS.one (h.2 c (List.mem_of_getElem? e))
theorem okS.line {x : Str} {n : Nat} (h : okS x n) (k : n ≤ 16777216) : x.length ≤ sizeLine := by rw [sizeLine_eq]; exact Nat.le_trans h.1 k
/-! ### what is shown, bounded -/
theorem shown_str_le {x : Str} {n : Nat} (h : okS x n) : (PyData.str x).shown.length ≤ 10 * n + 2 := by
  simp only [PyData.shown]
  have := StrLaws.reprText_len x (fun c hc => Nat.lt_of_lt_of_le (h.2 c hc) (by decide))
  have := h.1; omega
theorem Shw.of_str {x : Str} {n : Nat} (h : okS x n) (k : n ≤ 100000) : Shw (.str x) := ⟨rfl, by simp [PyData.depth], by have := shown_str_le h; rw [sizeLine_eq]; omega⟩
theorem log2_lt_1920 {i : Int} {k : Nat} (h : i.natAbs < 2 ^ k) (hk : k ≤ 1920) (h0 : 0 < k) : i.natAbs.log2 < 1920 := by
  have := PySem.Flt.log2_lt_of h0 h
  omega
/-! ### kinds -/
def tyN : PyData → String
  | .none => "NoneType" | .bool _ => "bool" | .int _ => "int" | .str _ => "str" | .list _ => "list" | .tuple _ => "tuple" | .dict _ => "dict"
theorem DaF.ty {b : Bool} {K : PySem.W.Frag} {H : Hp} {v : V} {d : PyData} (h : DaF b K H v d) : TyX K H v (.type (tyN d)) := by
  cases h with
  | non => exact .base .non
  | bl b => exact .base (.bl b)
  | int i => exact .base (.int i)
  | str x => exact .base (.str x)
  | lst h _ _ =>
    rcases h with (h | ⟨o, h⟩) | ⟨o, its, n, h, hc, _⟩
    · exact .base (.lst h)
    · exact .base (.frz h)
    · exact .kList h hc
  | tup h _ =>
    rcases h with (h | ⟨o, h⟩) | ⟨o, its, n, h, hc, _⟩
    · exact .base (.tup h)
    · exact .fTuple h
    · exact .kTuple h hc
  | dic h _ =>
    rcases h with h | ⟨o, h⟩
    · exact .base (.dK h)
    · exact .fDict h
def isi (d : PyData) (T : String) : Bool := tyN d == T || (tyN d == "bool" && T == "int")
theorem kit_isi : ∀ (d : PyData) (T : String), T ∈ ["int", "bool", "str", "tuple", "list", "dict"] → kitB (tyN d) T = some (isi d T) := by
  intro d T h
  have all : ∀ a ∈ ["NoneType", "bool", "int", "str", "list", "tuple", "dict"], ∀ T ∈ ["int", "bool", "str", "tuple", "list", "dict"], kitB a T = some (a == T || (a == "bool" && T == "int")) := by decide +kernel
  exact all (tyN d) (by cases d <;> simp [tyN]) T h
def rIsiD (K : PySem.W.Frag) : List V → Hp → VK → Prop := fun xs H Q => ∃ b v d T, xs = [v, .ty T] ∧ DaF b K H v d ∧ T ∈ ["int", "bool", "str", "tuple", "list", "dict"] ∧ Q (.bl (isi d T)) H
theorem call_isiD {X : Cx} : CallR X (.builtin "isinstance") (rIsiD X.K) := by
  intro pins s σ H xs us Q I r h
  obtain ⟨_, v, d, T, rfl, hd, hT, q⟩ := h
  exact call_isi pins s σ H _ us Q I r ⟨v, .ty T, _, _, _, rfl, .ty T, hd.ty, kit_ty (kit_isi d T hT), q⟩
theorem i_isi {b : Bool} {K : PySem.W.Frag} {H : Hp} {Q : VK} {v : V} {d : PyData} {T : String} (h : DaF b K H v d) (hT : T ∈ ["int", "bool", "str", "tuple", "list", "dict"]) (q : Q (.bl (isi d T)) H) : rIsiD K [v, .ty T] H Q := ⟨b, v, d, T, rfl, h, hT, q⟩
/-! ### len -/
def rLen (K : PySem.W.Frag) : List V → Hp → VK → Prop := fun xs H Q => ∃ x n, xs = [x] ∧ LenV K x H n ∧ Q (.int n) H
theorem call_lenN {X : Cx} : CallR X (.builtin "len") (rLen X.K) := call_len
theorem i_lenS {K : PySem.W.Frag} {H : Hp} {Q : VK} {x : Str} (h : x.length ≤ sizeLine) (q : Q (.int x.length) H) : rLen K [.str x] H Q := ⟨_, _, rfl, ⟨h, rfl⟩, q⟩
theorem i_lenL {K : PySem.W.Frag} {H : Hp} {Q : VK} {p : Addr} {xs : List V} (h : SqL K H p xs) (q : Q (.int xs.length) H) : rLen K [.ref p] H Q := ⟨_, _, rfl, .inl ⟨_, h, rfl⟩, q⟩
theorem i_lenT {K : PySem.W.Frag} {H : Hp} {Q : VK} {p : Addr} {xs : List V} (h : SqT K H p xs) (q : Q (.int xs.length) H) : rLen K [.ref p] H Q := ⟨_, _, rfl, .inr ⟨_, h, rfl⟩, q⟩
/-! ### repr -/
def rRepr (K : PySem.W.Frag) : List V → Hp → VK → Prop := fun xs H Q => ∃ b v d, xs = [v] ∧ DaF b K H v d ∧ (b = true ∨ d.hasDict = false) ∧ Shw d ∧ Q (.str d.shown) H
theorem call_reprN {X : Cx} (hr : Rg 1 X.A) : CallR X (.builtin "repr") (rRepr X.K) := call_reprD hr.gd (by have := hr.room.un; omega)
theorem i_repr {b : Bool} {K : PySem.W.Frag} {H : Hp} {Q : VK} {v : V} {d : PyData} (h : DaF b K H v d) (n : b = true ∨ d.hasDict = false) (w : Shw d) (q : Q (.str d.shown) H) : rRepr K [v] H Q := ⟨b, v, d, rfl, h, n, w, q⟩
/-! ### min, max, abs -/
theorem i_abs {H : Hp} {Q : VK} {i : Int} (q : Q (.int (if i < 0 then -i else i)) H) : ∃ j, [V.int i] = [.int j] ∧ Q (.int (if j < 0 then -j else j)) H := ⟨i, rfl, q⟩
theorem i_max {H : Hp} {Q : VK} {i j : Int} (q : Q (.int (if j > i then j else i)) H) : ∃ a b, [V.int i, V.int j] = [.int a, .int b] ∧ Q (.int (if b > a then b else a)) H := ⟨i, j, rfl, q⟩
theorem i_min {H : Hp} {Q : VK} {i j : Int} (q : Q (.int (if j < i then j else i)) H) : ∃ a b, [V.int i, V.int j] = [.int a, .int b] ∧ Q (.int (if b < a then b else a)) H := ⟨i, j, rfl, q⟩
/-! ### deep == -/
mutual
theorem DaF.dp {b : Bool} {K : PySem.W.Frag} {H : Hp} : ∀ {v : V} {d : PyData}, DaF b K H v d → d.hasDict = false → Dp K H v d
  | _, _, .non, _ => .non
  | _, _, .bl b, _ => .bl b
  | _, _, .int i, _ => .int i
  | _, _, .str x, _ => .str x
  | _, _, .lst h _ a, k => .lst h (DaAllF.dp a (by simpa [PyData.hasDict] using k))
  | _, _, .tup h a, k => .tup h (DaAllF.dp a (by simpa [PyData.hasDict] using k))
  | _, _, .dic h a, k => by simp [PyData.hasDict] at k
theorem DaAllF.dp {b : Bool} {K : PySem.W.Frag} {H : Hp} : ∀ {vs : List V} {ds : List PyData}, DaAllF b K H vs ds → PyData.hasDictAll ds = false → DpAll K H vs ds
  | _, _, .nil, _ => .nil
  | _, _, .cons a r, k => by
    simp only [PyData.hasDictAll, Bool.or_eq_false_iff] at k
    exact .cons (DaF.dp a k.1) (DaAllF.dp r k.2)
end
theorem strOk_of {x : Str} {n : Nat} (h : okS x n) : PyData.strOk x = true := by
  unfold PyData.strOk
  rw [Array.all_eq_true]
  intro i hi
  exact decide_eq_true (h.2 _ (by simp))
theorem i_eqD {b c : Bool} {K : PySem.W.Frag} {H : Hp} {Q : VK} {x y : V} {d e : PyData} (h : DaF b K H x d) (k : DaF c K H y e) (hd : d.hasDict = false) (he : e.hasDict = false) (sd : SeqAt.shaped d = true) (se : SeqAt.shaped e = true) (q : Q (.bl (PyData.eqv d e)) H) : rEqD K x y H Q :=
  ⟨d, e, h.dp hd, k.dp he, sd, se, q⟩
/-- a list of texts of one sign -/
def signsD (l : List Nat) : List PyData := l.map fun c => .str ⟨#[c]⟩
theorem da_signs {K : PySem.W.Frag} {H : Hp} : ∀ l : List Nat, DaAll K H (l.map fun c => V.str ⟨#[c]⟩) (signsD l)
  | [] => .nil
  | c :: l => .cons (.str _) (da_signs l)
theorem signs_hasDict : ∀ l : List Nat, PyData.hasDictAll (signsD l) = false
  | [] => rfl
  | c :: l => by show (PyData.hasDict (.str ⟨#[c]⟩) || PyData.hasDictAll (signsD l)) = false; rw [signs_hasDict l]; rfl
theorem signs_lay : ∀ l : List Nat, (∀ c ∈ l, c < 1114112) → PyData.canLayAll0 (signsD l) = true
  | [], _ => rfl
  | c :: l, h => by
    show (PyData.canLay0 (.str ⟨#[c]⟩) && PyData.canLayAll0 (signsD l)) = true
    rw [signs_lay l fun d hd => h d (List.mem_cons_of_mem _ hd)]
    have := h c List.mem_cons_self
    simp [PyData.canLay0, PyData.strOk, this]
theorem signs_depth : ∀ l : List Nat, PyData.depthAll (signsD l) ≤ 1
  | [] => by simp [signsD, PyData.depthAll]
  | c :: l => by
    have := signs_depth l
    simp only [signsD, List.map_cons, PyData.depthAll, PyData.depth] at this ⊢
    omega
theorem i_eqSigns {K : PySem.W.Frag} {H : Hp} {Q : VK} {a b : Addr} {l : List Nat} (h : H a = some (.lst (l.map fun c => V.str ⟨#[c]⟩))) (k : H b = some (.lst [])) (hl : ∀ c ∈ l, c < 1114112) (q : Q (.bl l.isEmpty) H) : rEqD K (.ref a) (.ref b) H Q := by
  refine i_eqD (b := false) (c := false) (Da.lst (.inl (.inl h)) (da_signs l)) (Da.lst (.inl (.inl k)) DaAllF.nil) (signs_hasDict l) rfl ?_ rfl ?_
  · unfold SeqAt.shaped
    have h1 : PyData.canLay0 (.list (signsD l)) = true := signs_lay l hl
    have h2 : PyData.depth (.list (signsD l)) ≤ 64 := by
      have := signs_depth l
      simp only [PyData.depth]
      omega
    rw [h1]
    simpa using h2
  · have e : PyData.eqv (.list (signsD l)) (.list []) = l.isEmpty := by
      cases l with
      | nil => rfl
      | cons c l => rfl
    rw [e]; exact q
/-! ### the law's numbers: a list of two ints that each draw turns -/
def Rok (H : Hp) (r : Addr) : Prop := ∃ a b : Int, H r = some (.lst [.int a, .int b]) ∧ 0 ≤ b ∧ b < 2147483588
theorem Rok.same {H H' : Hp} {r : Addr} (s : Same H H') (h : Rok H r) : Rok H' r := let ⟨a, b, e, k⟩ := h; ⟨a, b, s _ _ e, k⟩
theorem Rok.off {H H' : Hp} {r p : Addr} (s : Off p H H') (n : r ≠ p) (h : Rok H r) : Rok H' r := let ⟨a, b, e, k⟩ := h; ⟨a, b, s.get n e, k⟩
theorem Rok.ne {H : Hp} {r p : Addr} (h : Rok H r) (n : H p = none) : p ≠ r := let ⟨_, _, e, _⟩ := h; (ne_of_none e n).symm
/-- a comprehension whose element draws -/
theorem l_rng {J : It} {xs : List V} {G : Hp → Prop} (W : Wk J xs G) {g : TG} {te : TE} {vs : List Nat} {Q : VK} {σ : L2.St} {H1 : Hp} (r : Addr) (ok : Nat → V → Prop) (hlen : xs.length < sizeLine) (h0 : Rok H1 r) (hG : ∀ H', Off r H1 H' → G H')
    (hs : ∀ (i : Nat) x H' (R : VK), xs[i]? = some x → Off r H1 H' → Rok H' r → (∀ y H'', ok i y → Off r H' H'' → Rok H'' r → R y H'') → g x (wipe σ vs) H' fun σ2 H2 => wipe σ2 vs = wipe σ vs ∧ te σ2 H2 R)
    (q : ∀ D H' ys, H1 D = none → D ≠ r → Off r H1 H' → Rok H' r → H' D = some (.lst ys) → ys.length = xs.length → (∀ (i : Nat) y, ys[i]? = some y → ok i y) → Q (.ref D) H') : LcR J g tYes te vs σ H1 Q := by
  refine l_wk W fun D H0 n0 s0 e0 => ⟨fun i ys H => Off r H1 H ∧ Rok H r ∧ H D = some (.lst ys) ∧ ys.length = i ∧ ∀ (j : Nat) y, ys[j]? = some y → ok j y, ⟨.of_same s0, h0.same s0, e0, rfl, fun j y h => by simp at h⟩, fun i ys H h => hG _ h.1, fun i ys x H hx h => ?_, fun ys H h => ?_⟩
  · obtain ⟨o1, r1, e1, hl, hy⟩ := h
    have hi : i < xs.length := (List.getElem?_eq_some_iff.mp hx).1
    have hDr : D ≠ r := h0.ne n0
    let R : VK := fun y H4 => LcEl D (fun ys H => Off r H1 H ∧ Rok H r ∧ H D = some (.lst ys) ∧ ys.length = i + 1 ∧ ∀ (j : Nat) y, ys[j]? = some y → ok j y) y H4
    have e : (fun (σ2 : L2.St) H2 => wipe σ2 vs = wipe σ vs ∧ tYes σ2 H2 fun b H3 => if b = true then te σ2 H3 R else ∃ ys, Off r H1 H3 ∧ Rok H3 r ∧ H3 D = some (.lst ys) ∧ ys.length = i + 1 ∧ ∀ (j : Nat) y, ys[j]? = some y → ok j y) = fun σ2 H2 => wipe σ2 vs = wipe σ vs ∧ te σ2 H2 R := by
      funext σ2 H2
      show (_ ∧ if true = true then te σ2 H2 R else (∃ ys, Off r H1 H2 ∧ Rok H2 r ∧ H2 D = some (.lst ys) ∧ ys.length = i + 1 ∧ ∀ (j : Nat) y, ys[j]? = some y → ok j y)) = _
      rw [if_pos rfl]
    rw [e]
    refine hs i x H R hx o1 r1 fun y H'' hk o2 r2 => ?_
    refine i_lcEl (Off.get o2 hDr e1) (by omega) fun H5 o5 e5 => ⟨Off.thenF o5 n0 (Off.refl _ _) (o1.trans o2), r2.off o5 hDr.symm, e5, by simp [hl], fun j z hj => ?_⟩
    by_cases hlt : j < ys.length
    · rw [List.getElem?_append_left hlt] at hj
      exact hy j z hj
    · have hj' : j = i := by
        have := (List.getElem?_eq_some_iff.mp hj).1
        rw [List.length_append] at this
        simp at this
        omega
      subst hj'
      rw [← hl, List.getElem?_append_right (Nat.le_refl _)] at hj
      simp at hj
      rw [← hj]; exact hk
  · obtain ⟨o1, r1, e1, hl, hy⟩ := h
    exact q D H ys n0 (h0.ne n0) o1 r1 e1 hl hy
end KX

namespace KX
open PySem PySem.Spec PyProof.Rows L2
/-! ### what stands at one address stays -/
def Kp (a : Addr) (H H' : Hp) : Prop := ∀ o, H a = some o → H' a = some o
theorem Kp.refl {a : Addr} {H : Hp} : Kp a H H := fun _ e => e
theorem Kp.thenS {a : Addr} {H H1 H2 : Hp} (b : Same H1 H2) (k : Kp a H H1) : Kp a H H2 := fun o e => b _ _ (k o e)
theorem Kp.thenO {a p : Addr} {H H1 H2 : Hp} (b : Off p H1 H2) (n : a ≠ p) (k : Kp a H H1) : Kp a H H2 := fun o e => b _ _ n (k o e)
theorem Kp.get {a : Addr} {H H' : Hp} {o : HO} (h : H a = some o) (k : Kp a H H') : H' a = some o := k o h
theorem Rok.ne' {H : Hp} {r p : Addr} (n : H p = none) (h : Rok H r) : p ≠ r := h.ne n
theorem Rok.kp {H H' : Hp} {r : Addr} (h : Rok H r) (k : Kp r H H') : Rok H' r := let ⟨a, b, e, z⟩ := h; ⟨a, b, k _ e, z⟩
/-! ### data that may be shown and compared -/
structure OkD (d : PyData) : Prop where
  sh : Shw d
  st : ∀ x, d = .str x → okS x 16777216
def okdB (d : PyData) : Bool := d.showable && (decide (d.depth ≤ 20) && (decide (d.shown.length ≤ 16777216) && match d with
  | .str x => decide (x.length ≤ 16777216) && x.cps.toList.all fun c => decide (c < 1114112)
  | _ => true))
theorem okd_of {d : PyData} (h : okdB d = true) : OkD d := by
  unfold okdB at h
  simp only [Bool.and_eq_true, decide_eq_true_eq] at h
  obtain ⟨h1, h2, h3, h4⟩ := h
  refine ⟨⟨h1, h2, by rw [sizeLine_eq]; exact h3⟩, fun x e => ?_⟩
  subst e
  simp only [Bool.and_eq_true, decide_eq_true_eq, List.all_eq_true] at h4
  exact ⟨h4.1, h4.2⟩
theorem OkD.int {i : Int} (h : i.natAbs.log2 < 1920) : OkD (.int i) := ⟨⟨by simpa [PyData.showable] using h, by simp [PyData.depth], by rw [PyData.shown_int]; exact int_text_fits h⟩, fun x e => by cases e⟩
theorem OkD.str {x : Str} {n : Nat} (h : okS x n) (k : n ≤ 100000) : OkD (.str x) := ⟨Shw.of_str h k, fun y e => by cases e; exact h.mono (by omega)⟩
/-! ### the law's call from the top, where the frames' guards are told -/
section
variable {P : Program} {w : World} {K : PySem.W.Frag} {mg mb : Str → Option Value}
abbrev scrO (us : List Value) : Obj := { cls := .type "list", data := .seq us.toArray }
def scrH (K : PySem.W.Frag) (a : Addr) (us : List Value) (ns : List Int) : Hp := fun b =>
  if b = a ∧ K.lookup a = none then some (.frz (scrO us) (.lst (ns.map V.int))) else none
theorem scrH_or (K : PySem.W.Frag) (a : Addr) (us : List Value) (ns : List Int) (b : Addr) :
    scrH K a us ns b = none ∨ (b = a ∧ K.lookup a = none ∧ scrH K a us ns b = some (.frz (scrO us) (.lst (ns.map V.int)))) := by
  unfold scrH
  by_cases h : b = a ∧ K.lookup a = none
  · exact .inr ⟨h.1, h.2, if_pos h⟩
  · exact .inl (if_neg h)
/-- what the law's def promises, at the heap behind the top -/
theorem lawG {CX : CXT} {k : Nat} {fa a : Addr} {fd : FuncData} {x : Str} {sp : Sp} {t0 : Shared} {us : List Value} {ns : List Int} (inK : K.In t0.heap) (g1 : t0.heap.Ns mainGlobals mg) (g2 : t0.heap.Ns builtinsNs mb)
    (g3 : ∀ y : Str, y ≠ "__name__" → mb y = bootBuiltins y) (g4 : t0.heap.NoLimit) (g5 : t0.gens = #[]) (there : t0.heap.get? a = some (scrO us)) (hin : IntsAre us ns) (few : ns.length ≤ sizeLine) (room : Room k callerA)
    (G : ∀ b0 : Heap, K.In b0 → b0.Ns mainGlobals mg → Fg P w K mg b0 CX k fa fd [x] sp) (binds : ∀ (s : Shared) (u : Value), BindsTo s fd ⟨[u], []⟩ [(x, u)])
    (promise : ∀ H : Hp, SqL K H a (ns.map V.int) → sp [.ref a] H (fun v _ => v = .bl true) fun _ _ _ => False) (noX : ∀ H e s', CX [] H t0 (fun _ _ _ => False) e s' → False) :
    codeAny (model P w) callerA (.call (.ref fa) ⟨[.ref a], []⟩)
      (fun r s' => r = .ok (.ret (.bool true)) ∧ OldK t0.heap s'.heap ∧ s'.os = t0.os ∧ AllBare s'.gens) t0 := by
  have rel := vals_ints hin
  have off : ∀ {b : Addr} {o : Obj}, t0.heap.get? b = some o → (b = a → K.lookup a = none → False) → (hidT t0.heap (scrH K a us ns)).get? b = some o := fun {b o} e z => by
    refine hidT_get e ?_
    rcases scrH_or K a us ns b with h | ⟨h1, h2, _⟩
    · exact h
    · exact (z h1 h2).elim
  have dicts : ∀ {b : Addr} {o : Obj} {es : Array DictEntry} {ep : Nat}, t0.heap.get? b = some o → o.data = .dict es ep → b = a → False := fun {b o es ep} e d z => by
    rw [z, there] at e
    cases e
    cases (show Data.seq us.toArray _ = Data.dict es ep from d)
  have names : ∀ {b : Addr} {m : Str → Option Value}, t0.heap.Ns b m → (hidT t0.heap (scrH K a us ns)).Ns b m := fun {b m} ⟨o, es, ep, e, d, r⟩ => ⟨o, es, ep, off e (fun z _ => dicts e d z), d, r⟩
  have inB : K.In (hidT t0.heap (scrH K a us ns)) := fun b o e => off (inK b o e) fun z1 z2 => by
    rw [z1, z2] at e
    cases e
  have top : Mod K mg (hidT t0.heap (scrH K a us ns)) := ⟨inB, names g1, ⟨mb, names g2, g3⟩, let ⟨mc, h1, h2⟩ := g4; ⟨mc, names h1, h2⟩⟩
  have hok : HOk P w (scrH K a us ns) t0.heap := fun b u z => by
    rcases scrH_or K a us ns b with h | ⟨h1, _, h3⟩
    · rw [h] at z; cases z
    · rw [h3] at z
      cases z
      subst h1
      exact ⟨there, by rw [List.length_map]; exact few, us, _, rel, there⟩
  have env : Env0 P w K mg (hidT t0.heap (scrH K a us ns)) callerA [] t0 (scrH K a us ns) :=
    ⟨rfl, top, fun b o e => of_hidT e, Nat.le_of_eq (hidT_size _ _), trivial, fun b hb => (nomatch hb), hok, .of_eq g5⟩
  have seen : SqL K (scrH K a us ns) a (ns.map V.int) := by
    cases lk : K.lookup a with
    | none => exact .inl (.inr ⟨scrO us, if_pos ⟨rfl, lk⟩⟩)
    | some o =>
      have e := inK a o lk
      rw [there] at e
      cases e
      exact .inr ⟨_, us.toArray, _, lk, rfl, rfl, rfl, by rw [List.size_toArray, hin.length]; exact few, by simpa using rel⟩
  refine codeAny_mono ((G _ inB (names g1)).run callerA [] t0 (scrH K a us ns) ⟨[.ref a], []⟩ [.ref a] [.ref a] _ _ ⟨room, rfl⟩ env (binds t0 (.ref a)) (.cons rfl .nil) (promise _ seen)) fun r s' end_ => ?_
  match r, end_ with
  | .error e, end_ => exact (noX _ e s' end_).elim
  | .ok .next, end_ => exact False.elim end_
  | .ok .brk, end_ => exact False.elim end_
  | .ok .cont, end_ => exact False.elim end_
  | .ok (.ret u), ⟨v, H', os, bare, un, hok', r', q⟩ =>
    have q' : v = .bl true := q
    subst q'
    obtain rfl : u = Value.bool true := r'
    refine ⟨rfl, OldK.of_keep fun b o e => ?_, os, bare⟩
    rcases scrH_or K a us ns b with h | ⟨h1, h2, h3⟩
    · exact un.keep b o e h (fun z => (nomatch z)) (fun z => (nomatch z))
    · have z2 := un.frzs b _ _ h3
      obtain ⟨e1, _⟩ := hok b _ h3
      obtain ⟨e2, _⟩ := hok' b _ z2
      rw [e] at e1
      cases e1
      exact e2
theorem walkG {l : PySem.W.OpenLaw} {n k : Nat} {q : Program} {loose : List Str} {XP : (Str → Option Value) → Heap → Prop} {YP : World → Heap → Prop} {d : DefRec} {K : Params → PySem.W.Frag} {CX : World → CXT} {sp : World → Sp} {x : Str} (most : l.most = some n) (few : n ≤ sizeLine)
    (plain : d.params.defaults = []) (room : Room k callerA) (inK : ∀ (w : World) (h : Heap), YP w h → (K w.params).In h)
    (G : ∀ (w : World) (mg : Str → Option Value) (fa : Addr) (h : Heap), (K w.params).In h → h.Ns mainGlobals mg → mg d.name = some (.ref fa) → ∃ fd : FuncData,
      (∀ (s : Shared) (u : Value), BindsTo s fd ⟨[u], []⟩ [(x, u)]) ∧ ∀ b0 : Heap, (K w.params).In b0 → b0.Ns mainGlobals mg → Fg l.prog w (K w.params) mg b0 (CX w) k fa fd [x] (sp w))
    (promise : ∀ (w : World) (H : Hp) (a : Addr) (ns : List Int), ns.length ≤ n → (∀ z ∈ ns, Builtin.Int.intBits z ≤ 1048576) → SqL (K w.params) H a (ns.map V.int) → sp w [.ref a] H (fun v _ => v = .bl true) fun _ _ _ => False)
    (noX : ∀ (w : World) (H : Hp) (s : Shared) (e : Value) (s' : Shared), CX w [] H s (fun _ _ _ => False) e s' → False) :
    PySem.W.WalkO q loose XP YP l.row.toRowW d [] (fun f vs => PySem.call f vs) := by
  refine Att.attach_callB most plain fun w _ t0 mg mb fa _ _ _ _ a us ns gr y _ _ _ at_ there hin len bits gens => ?_
  obtain ⟨fd, binds, hF⟩ := G w mg fa _ (inK w _ y) gr.T.g at_
  exact lawG (inK w _ y) gr.T.g gr.T.b gr.T.builtins gr.T.nolimit gens there hin (Nat.le_trans len few) room hF binds (fun H seen => promise w H a ns len bits seen) fun H e s' => noX w H t0 e s'
end
end KX

namespace KX
open PySem PySem.Spec PyProof.Rows L2
/-! ### the heap without one address, and the part that is new -/
def wo (r : Addr) (H : Hp) : Hp := fun b => if b = r then none else H b
theorem wo_get {r b : Addr} {H : Hp} (n : b ≠ r) : wo r H b = H b := if_neg n
theorem wo_same {r : Addr} {H : Hp} : Same (wo r H) H := fun b o e => by
  by_cases h : b = r
  · have e' : wo r H b = none := if_pos h
    rw [e'] at e; cases e
  · rwa [wo_get h] at e
theorem Off.wo {r : Addr} {H H' : Hp} (s : Off r H H') : Same (KX.wo r H) (KX.wo r H') := fun b o e => by
  by_cases h : b = r
  · have e' : KX.wo r H b = none := if_pos h
    rw [e'] at e; cases e
  · rw [wo_get h] at e ⊢
    exact s _ _ h e
theorem Same.wo {r : Addr} {H H' : Hp} (s : Same H H') : Same (KX.wo r H) (KX.wo r H') := Off.wo (.of_same s)
def newP (H H' : Hp) : Hp := fun b => if H b = none then H' b else none
theorem newP_same {H H' : Hp} : Same (newP H H') H' := fun b o e => by
  unfold newP at e
  split at e
  · exact e
  · cases e
theorem newP_get {H H' : Hp} {b : Addr} (h : H b = none) : newP H H' b = H' b := if_pos h
theorem newP_mono {H H1 H2 : Hp} (s : Same H1 H2) : Same (newP H H1) (newP H H2) := fun b o e => by
  unfold newP at e ⊢
  split at e
  · next h => rw [if_pos h]; exact s _ _ e
  · cases e
theorem none_of {H H1 : Hp} (s : Same H H1) {b : Addr} (h : H1 b = none) : H b = none := by
  cases e : H b with
  | none => rfl
  | some o => rw [s _ _ e] at h; cases h
theorem newP_back {H H1 H2 : Hp} (s : Same H H1) : Same (newP H1 H2) (newP H H2) := fun b o e => by
  unfold newP at e ⊢
  split at e
  · next h => rw [if_pos (none_of s h)]; exact e
  · cases e
theorem newP_wo {H H' : Hp} {r : Addr} {o : HO} (h : H r = some o) : Same (newP H H') (wo r H') := fun b u e => by
  unfold newP at e
  split at e
  · next z => rw [wo_get (fun q => by rw [q, h] at z; cases z)]; exact e
  · cases e
theorem DaAllF.len {b : Bool} {K : PySem.W.Frag} {H : Hp} : ∀ {vs : List V} {ds : List PyData}, DaAllF b K H vs ds → vs.length = ds.length
  | _, _, .nil => rfl
  | _, _, .cons _ r => congrArg (· + 1) (DaAllF.len r)
theorem DaAllF.mem {b : Bool} {K : PySem.W.Frag} {H : Hp} : ∀ {vs : List V} {ds : List PyData}, DaAllF b K H vs ds → ∀ v ∈ vs, ∃ d ∈ ds, DaF b K H v d
  | _, _, .nil, _, h => (nomatch h)
  | _, _, .cons a r, v, h => by
    rcases List.mem_cons.mp h with e | h
    · subst e; exact ⟨_, List.mem_cons_self, a⟩
    · obtain ⟨d, hd, k⟩ := DaAllF.mem r v h
      exact ⟨d, List.mem_cons_of_mem _ hd, k⟩
theorem DaAllF.app {b : Bool} {K : PySem.W.Frag} {H : Hp} : ∀ {vs us : List V} {ds es : List PyData}, DaAllF b K H vs ds → DaAllF b K H us es → DaAllF b K H (vs ++ us) (ds ++ es)
  | _, _, _, _, .nil, k => k
  | _, _, _, _, .cons a r, k => .cons a (DaAllF.app r k)
theorem okd_all {ds : List PyData} (h : ds.all okdB = true) {d : PyData} (k : d ∈ ds) : OkD d := okd_of (List.all_eq_true.mp h d k)
/-! ### written data -/
mutual
inductive Lit : Expr → PyData → Prop
  | non {j p} : Lit (.Constant .none j p) .none
  | bl {b j p} : Lit (.Constant (.bool b) j p) (.bool b)
  | int {i j p} : Lit (.Constant (.int i) j p) (.int i)
  | str {x j p} : Lit (.Constant (.str x) j p) (.str x)
  | neg {i j p p'} : Lit (.UnaryOp .USub (.Constant (.int i) j p) p') (.int (-i))
  | sub {a b i j p} : Lit a (.int i) → Lit b (.int j) → Lit (.BinOp a .Sub b p) (.int (i - j))
  | pow {a b i j p} : Lit a (.int i) → Lit b (.int j) → 0 ≤ j → j ≤ 1000000 → i.natAbs < 2 ^ 64 → Lit (.BinOp a .Pow b p) (.int (i ^ j.toNat))
  | lst {es ds p} : LitAll es ds → ds.length ≤ 1000 → Lit (.List es p) (.list ds)
  | tup {es ds x p} : LitAll es ds → ds.length ≤ 1000 → Lit (.Tuple es x p) (.tuple ds)
  | dic0 {p} : Lit (.Dict [] [] p) (.dict [])
  | dicI {i j q v d p} : Lit v d → Lit (.Dict [some (.Constant (.int i) j q)] [v] p) (.dict [(.int i, d)])
  | dicS {x j q v d p} : Lit v d → Lit (.Dict [some (.Constant (.str x) j q)] [v] p) (.dict [(.str x, d)])
inductive LitAll : List Expr → List PyData → Prop
  | nil : LitAll [] []
  | cons {e es d ds} : Lit e d → LitAll es ds → LitAll (e :: es) (d :: ds)
end
theorem Lit.star {e : Expr} {d : PyData} (h : Lit e d) (es : List Expr) (env : Env) : starEach (e :: es) env = (false, eval e env) :: starEach es env := by
  cases h <;> rfl
/-- a list display: its address is told to be none of the run's own -/
def tLstN (t : TA) : TE := fun σ H Q => t σ H fun xs H1 => xs.length ≤ sizeLine ∧ ∀ p, H1 p = none → p ≠ sysModules → Q (.ref p) (upd H1 p (.lst xs))
theorem pe_lstN {X : Cx} {es : List Expr} {t : TA} {pos : Pos} (h : PA X es t) : PE X (.List es pos) (tLstN t) :=
  ⟨fun pins s σ H Q I hq => wpAny_List_spliced (thn (h.run pos pins s σ H _ I hq) fun us t1 ⟨xs, H1, J, r, z, q⟩ => by
    have free : H1 t1.heap.objs.size = none := J.hok.fresh (Nat.le_refl _)
    refine ⟨by rw [← r.length]; exact z, .ref t1.heap.objs.size, L2.upd H1 t1.heap.objs.size (.lst xs), J.laid (t' := t1.toks) (fun b u e => Heap.get?_push_of_some _ e) (Nat.le_refl _) ?_, rfl, q _ free (Nat.ne_of_gt J.big)⟩
    exact ⟨z, us, 0, r, Heap.get?_push_size _ rfl⟩)⟩
def NewN (H : Hp) (o : HO) (Q : VK) : Prop := ∀ p, H p = none → p ≠ sysModules → Q (.ref p) (L2.upd H p o)
theorem i_newN {H : Hp} {o : HO} {Q : VK} (q : ∀ p H', H p = none → p ≠ sysModules → Same H H' → H' p = some o → Q (.ref p) H') : NewN H o Q := fun p hp hn => q p _ hp hn (same_new hp) upd_same
theorem i_lstN {t : TA} {σ : L2.St} {H : Hp} {Q : VK} (q : t σ H fun xs H1 => xs.length ≤ sizeLine ∧ NewN H1 (.lst xs) Q) : tLstN t σ H Q := q
def tLit (K : PySem.W.Frag) (d : PyData) : TE := fun _ H Q => ∀ v H', Same H H' → DaS K (newP H H') v d → Q v H'
def tLits (K : PySem.W.Frag) (ds : List PyData) : TA := fun _ H Q => ∀ vs H', Same H H' → DaAllS K (newP H H') vs ds → Q vs H'
def tLitL (K : PySem.W.Frag) (ds : List PyData) : TE := fun _ H Q => ∀ p xs H', H p = none → p ≠ sysModules → Same H H' → H' p = some (.lst xs) → DaAllS K (newP H H') xs ds → Q (.ref p) H'
theorem _root_.L2.PE.imp {X : Cx} {e : Expr} {t u : TE} (h : PE X e t) (k : ∀ σ H Q, u σ H Q → t σ H Q) : PE X e u := ⟨fun pins s σ H Q I q => h.run pins s σ H Q I (k _ _ _ q)⟩
theorem _root_.L2.PA.imp {X : Cx} {es : List Expr} {t u : TA} (h : PA X es t) (k : ∀ σ H Q, u σ H Q → t σ H Q) : PA X es u := ⟨fun pos pins s σ H Q I q => h.run pos pins s σ H Q I (k _ _ _ q)⟩
theorem one_dict {H : Hp} {p : Addr} {k : Key} {v : V} {K : PySem.W.Frag} {H1 H2 : Hp} {d : PyData} (hp : H p = none) (s1 : Same (upd H p (.dK [])) H1) (hd : DaS K (newP (upd H p (.dK [])) H1) v d) (e : H2 = upd H1 p (.dK [(k, v)])) :
    Same H H2 ∧ DaS K (newP H H2) (.ref p) (.dict [(keyD k, d)]) := by
  subst e
  have h1 : H1 p = some (.dK []) := s1 _ _ upd_same
  have sH : Same H H1 := (same_new hp).trans s1
  have sn : Same (newP (upd H p (.dK [])) H1) (newP H (upd H1 p (.dK [(k, v)]))) := fun b o e => by
    unfold newP at e ⊢
    split at e
    · next h =>
      have nb : b ≠ p := fun z => by rw [z, upd_same] at h; cases h
      rw [upd_ne nb] at h
      rw [if_pos h, upd_ne nb]; exact e
    · cases e
  refine ⟨fun b o e => ?_, .dic (kvs := [(k, v)]) (Rd.of ?_) (.cons (hd.same sn) .nil)⟩
  · have nb : b ≠ p := fun z => by rw [z, hp] at e; cases e
    rw [upd_ne nb]; exact sH _ _ e
  · rw [newP_get hp, upd_same]
mutual
theorem Lit.pe {X : Cx} : ∀ {e : Expr} {d : PyData}, Lit e d → PE X e (tLit X.K d)
  | _, _, .non => pe_non.imp fun σ H Q q => q _ _ (Same.refl _) .non
  | _, _, .bl => pe_bl.imp fun σ H Q q => q _ _ (Same.refl _) (.bl _)
  | _, _, .int => pe_int.imp fun σ H Q q => q _ _ (Same.refl _) (.int _)
  | _, _, .str => pe_str.imp fun σ H Q q => q _ _ (Same.refl _) (.str _)
  | _, _, .neg => (pe_un un_neg pe_int).imp fun σ H Q q => ⟨_, rfl, q _ _ (Same.refl _) (.int _)⟩
  | _, _, .sub ha hb => (pe_op op_sub ha.pe hb.pe).imp fun σ H Q q v H1 s1 hv w H2 s2 hw => by
      cases hv; cases hw
      exact ⟨_, _, rfl, rfl, q _ _ (s1.trans s2) (.int _)⟩
  | _, _, .pow ha hb j0 j1 i1 => (pe_op op_pow ha.pe hb.pe).imp fun σ H Q q v H1 s1 hv w H2 s2 hw => by
      cases hv; cases hw
      exact ⟨_, _, rfl, rfl, ⟨j0, j1, i1⟩, q _ _ (s1.trans s2) (.int _)⟩
  | _, _, .lst h l => (pe_lstN h.pa).imp fun σ H Q q vs H1 s1 hd => ⟨by rw [hd.len, sizeLine_eq]; exact Nat.le_trans l (by decide), fun p hp hn =>
      q _ _ (s1.trans (same_new hp)) (.lst (SqL.of (by rw [newP_get (none_of s1 hp), upd_same])) (fun _ => hn) (hd.same (newP_mono (same_new hp))))⟩
  | _, _, .tup h l => (pe_tup h.pa).imp fun σ H Q q vs H1 s1 hd => ⟨by rw [hd.len, sizeLine_eq]; exact Nat.le_trans l (by decide), fun p hp =>
      q _ _ (s1.trans (same_new hp)) (.tup (SqT.of (by rw [newP_get (none_of s1 hp), upd_same])) (hd.same (newP_mono (same_new hp))))⟩
  | _, _, .dic0 => pe_dnewK.imp fun σ H Q q p hp => q _ _ (same_new hp) (.dic (Rd.of (by rw [newP_get hp, upd_same])) .nil)
  | _, _, .dicI h => (pe_disp (pps_cons pe_int h.pe pps_nil) (by rfl) (by rfl) (fun z => by cases z) (by show 1 ≤ 15; decide)).imp fun σ H Q q p hp v H1 s1 hd => by
      obtain ⟨a, b⟩ := one_dict (k := .inl _) hp s1 hd rfl
      exact ⟨s1 _ _ upd_same, [(.inl _, v)], rfl, (by show 1 ≤ 15; decide), q _ _ a b⟩
  | _, _, .dicS h => (pe_disp (pps_cons pe_str h.pe pps_nil) (by rfl) (by rfl) (fun z => by cases z) (by show 1 ≤ 15; decide)).imp fun σ H Q q p hp v H1 s1 hd => by
      obtain ⟨a, b⟩ := one_dict (k := .inr _) hp s1 hd rfl
      exact ⟨s1 _ _ upd_same, [(.inr _, v)], rfl, (by show 1 ≤ 15; decide), q _ _ a b⟩
theorem LitAll.pa {X : Cx} : ∀ {es : List Expr} {ds : List PyData}, LitAll es ds → PA X es (tLits X.K ds)
  | _, _, .nil => pa_nil.imp fun σ H Q q => q _ _ (Same.refl _) .nil
  | _, _, .cons h t => (pa_cons h.pe t.pa (h.star _ _)).imp fun σ H Q q v H1 s1 hd vs H2 s2 hds =>
      q _ _ (s1.trans s2) (.cons (hd.same (newP_mono s2)) (hds.same (newP_back s1)))
end
theorem pe_litL {X : Cx} {es : List Expr} {ds : List PyData} {p : Pos} (h : LitAll es ds) (l : ds.length ≤ 1000) : PE X (.List es p) (tLitL X.K ds) :=
  (pe_lstN h.pa).imp fun σ H Q q vs H1 s1 hd => ⟨by rw [hd.len, sizeLine_eq]; exact Nat.le_trans l (by decide), fun p hp hn =>
    q _ _ _ (none_of s1 hp) hn (s1.trans (same_new hp)) upd_same (hd.same (newP_mono (same_new hp)))⟩
theorem i_lit {K : PySem.W.Frag} {d : PyData} {σ : L2.St} {H : Hp} {Q : VK} (q : ∀ v H', Same H H' → DaS K (newP H H') v d → Q v H') : tLit K d σ H Q := q
theorem i_litL {K : PySem.W.Frag} {ds : List PyData} {σ : L2.St} {H : Hp} {Q : VK} (q : ∀ p xs H', H p = none → p ≠ sysModules → Same H H' → H' p = some (.lst xs) → DaAllS K (newP H H') xs ds → Q (.ref p) H') : tLitL K ds σ H Q := q
/-! ### bounds on what is shown -/
theorem i_rEqSame {H : Hp} {Q : VK} {x : V} (h : scal x x = true) (q : Q (.bl true) H) : rEq x x H Q := ⟨h, by rw [decide_eq_true (rfl : x = x)]; exact q⟩
theorem i_rNeSame {H : Hp} {Q : VK} {x : V} (h : scal x x = true) (q : Q (.bl false) H) : rNe x x H Q := ⟨h, by rw [decide_eq_true (rfl : x = x)]; exact q⟩
structure Sh (d : PyData) (n k : Nat) : Prop where
  ok : d.showable = true
  dp : d.depth ≤ k
  ln : d.shown.length ≤ n
theorem Sh.mono {d : PyData} {n k n' k' : Nat} (h : Sh d n k) (a : n ≤ n') (b : k ≤ k') : Sh d n' k' := ⟨h.ok, Nat.le_trans h.dp b, Nat.le_trans h.ln a⟩
theorem Sh.shw {d : PyData} {n k : Nat} (h : Sh d n k) (a : n ≤ 16777216) (b : k ≤ 20) : Shw d := ⟨h.ok, Nat.le_trans h.dp b, by rw [sizeLine_eq]; exact Nat.le_trans h.ln a⟩
theorem join_le (sep : Str) {n : Nat} : ∀ ts : List Str, (∀ t ∈ ts, t.length ≤ n) → (Str.join sep ts).length ≤ ts.length * (n + sep.length)
  | [], _ => by show 0 ≤ _; omega
  | [x], h => by
    have := h x (by simp)
    show x.length ≤ 1 * (n + sep.length)
    omega
  | x :: y :: r, h => by
    have h1 := h x (by simp)
    have ih := join_le sep (y :: r) (fun t ht => h t (List.mem_cons_of_mem _ ht))
    show (x ++ sep ++ Str.join sep (y :: r)).length ≤ _
    rw [Str.length_append, Str.length_append]
    have e : (x :: y :: r).length * (n + sep.length) = (y :: r).length * (n + sep.length) + (n + sep.length) := by
      rw [List.length_cons, Nat.add_mul, Nat.one_mul]
    omega
theorem shownAll_mem : ∀ {ds : List PyData} {t : Str}, t ∈ PyData.shownAll ds → ∃ d ∈ ds, d.shown = t
  | [], t, h => by rw [PyData.shownAll_nil] at h; cases h
  | d :: ds, t, h => by
    rw [PyData.shownAll_cons] at h
    rcases List.mem_cons.mp h with e | h
    · exact ⟨d, List.mem_cons_self, e.symm⟩
    · obtain ⟨e, he, k⟩ := shownAll_mem h
      exact ⟨e, List.mem_cons_of_mem _ he, k⟩
theorem depthAll_le {k : Nat} : ∀ {ds : List PyData}, (∀ d ∈ ds, d.depth ≤ k) → PyData.depthAll ds ≤ k
  | [], _ => by simp [PyData.depthAll]
  | d :: ds, h => by
    have h1 := h d List.mem_cons_self
    have h2 := depthAll_le (ds := ds) fun e he => h e (List.mem_cons_of_mem _ he)
    simp only [PyData.depthAll]
    omega
theorem Sh.lst {ds : List PyData} {n k : Nat} (h : ∀ d ∈ ds, Sh d n k) : Sh (.list ds) (ds.length * (n + 2) + 2) (k + 1) := by
  refine ⟨by simp only [PyData.showable]; exact showableAll_of fun d hd => (h d hd).ok, ?_, ?_⟩
  · have := depthAll_le fun d hd => (h d hd).dp
    simp only [PyData.depth]; omega
  · rw [PyData.shown_list, Str.length_append, Str.length_append]
    have := join_le (", " : Str) (n := n) (PyData.shownAll ds) fun t ht => by
      obtain ⟨d, hd, e⟩ := shownAll_mem ht
      rw [← e]; exact (h d hd).ln
    rw [PyData.shownAll_length] at this
    have e1 : ("[" : Str).length = 1 := by decide +kernel
    have e2 : ("]" : Str).length = 1 := by decide +kernel
    have e3 : (", " : Str).length = 2 := by decide +kernel
    rw [e3] at this
    omega
theorem Sh.tup {ds : List PyData} {n k : Nat} (h : ∀ d ∈ ds, Sh d n k) : Sh (.tuple ds) (ds.length * (n + 2) + 3) (k + 1) := by
  refine ⟨by simp only [PyData.showable]; exact showableAll_of fun d hd => (h d hd).ok, ?_, ?_⟩
  · have := depthAll_le fun d hd => (h d hd).dp
    simp only [PyData.depth]; omega
  · rw [PyData.shown_tuple, Str.length_append, Str.length_append]
    have := join_le (", " : Str) (n := n) (PyData.shownAll ds) fun t ht => by
      obtain ⟨d, hd, e⟩ := shownAll_mem ht
      rw [← e]; exact (h d hd).ln
    rw [PyData.shownAll_length] at this
    have e1 : ("(" : Str).length = 1 := by decide +kernel
    have e3 : (", " : Str).length = 2 := by decide +kernel
    have e2 : (((if (ds.length == 1) = true then ",)" else ")" : String) : Str)).length ≤ 2 := by
      split <;> decide +kernel
    rw [e3] at this
    omega
theorem Sh.bl {b : Bool} : Sh (.bool b) 5 0 := by cases b <;> exact ⟨by decide +kernel, by decide +kernel, by decide +kernel⟩
theorem Sh.non : Sh .none 4 0 := ⟨by decide +kernel, by decide +kernel, by decide +kernel⟩
theorem Sh.int {i : Int} (h : i.natAbs.log2 < 1920) : Sh (.int i) 1921 0 := ⟨by simpa [PyData.showable] using h, by simp [PyData.depth], by rw [PyData.shown_int]; exact int_text_len_1921 h⟩
theorem Sh.str {x : Str} {n : Nat} (h : okS x n) : Sh (.str x) (10 * n + 2) 0 := ⟨rfl, by simp [PyData.depth], shown_str_le h⟩
theorem shw_b2 (a b : Bool) : Shw (.list [.bool a, .bool b]) := (Sh.lst (ds := [.bool a, .bool b]) (n := 5) (k := 0) fun d hd => by
  simp only [List.mem_cons, List.not_mem_nil, or_false] at hd
  rcases hd with rfl | rfl <;> exact Sh.bl).shw (by show 2 * 7 + 2 ≤ _; decide) (by decide)
end KX

namespace KX
open PySem PySem.Spec PyProof.Rows L2
/-! ### own exception classes over any built-in base -/
structure BaseF (newId initId : String) (bmB : List Value) : Prop where
  ex : ∃ B, ExcBaseFacts B newId initId bmB ∧ StoreFacts B bmB "object.__setattr__" "object"
  hand : PySem.W.handedIn (.builtin initId) = true
abbrev tailOf (B : String) : List Value := [.type B, .type "Exception", .type "BaseException", .type "object"]
theorem baseV : BaseF "ValueError.__new__" "ValueError.__init__" (tailOf "ValueError") := ⟨⟨_, PySem.F.excBase_ValueError, PySem.F.store_ValueError⟩, by decide +kernel⟩
theorem baseL : BaseF "LookupError.__new__" "LookupError.__init__" (tailOf "LookupError") := ⟨⟨_, PySem.F.excBase_LookupError, PySem.F.store_LookupError⟩, by decide +kernel⟩
theorem baseR : BaseF "RuntimeError.__new__" "RuntimeError.__init__" (tailOf "RuntimeError") := ⟨⟨_, PySem.F.excBase_RuntimeError, PySem.F.store_RuntimeError⟩, by decide +kernel⟩
theorem baseA : BaseF "ArithmeticError.__new__" "ArithmeticError.__init__" (tailOf "ArithmeticError") := ⟨⟨_, PySem.F.excBase_ArithmeticError, PySem.F.store_ArithmeticError⟩, by decide +kernel⟩
/-- what the written part tells of such a class -/
structure OexB (K : PySem.W.Frag) (newId initId : String) (bmB : List Value) (C : Addr) : Prop where
  bf : BaseF newId initId bmB
  ini : PySem.W.excInitIn K C bmB newId = true
  ov : PySem.W.excOver K C bmB = true
  sa : PySem.W.findIn K (.ref C) "__setattr__" = some (some (.builtin "object.__setattr__"))
  hd : PySem.W.hasDictIn K C = true
  exC : PySem.W.subIn K (.ref C) (.type "BaseException") = some true
  tyC : PySem.W.typeIn K (.ref C) = some (.type "type")
  kC : PySem.W.keepIn K (.ref C) = true
section
open PySem.W
variable {prog : Program} {w : World} {A : Around} {R : Result → Shared → Prop} {s : Shared} {K : PySem.W.Frag} {B : String} {bmB : List Value} {C x t1 : Addr} {name : Str} {tk : Tok} {v : Value}
/-- x.name = v, x an exception without a dict as yet -/
theorem osb_new (SF : StoreFacts B bmB "object.__setattr__" "object") (inK : K.In s.heap) (hx : s.heap.get? x = some (excObj C t1 none .none)) (ov : excOver K C bmB = true) (ht : takerIn K C name = some none) (hh : hasDictIn K C = true)
    (q : ∀ h' tk', (∀ b o, b ≠ x → s.heap.get? b = some o → h'.get? b = some o) → h'.get? x = some (excObj C t1 (some s.heap.objs.size) .none) → h'.Ns1 s.heap.objs.size (fun y => if y = name then some v else none) → R (.ok (.ret .none)) { s with heap := h', toks := tk' }) :
    codeAny (model prog w) A (.call (.builtin "object.__setattr__") ⟨[.ref x, .str name tk, v], []⟩) R s := by
  have lt := Heap.lt_size hx
  refine osa_openX (od := none) SF inK ⟨hx, rfl, rfl, trivial⟩ ov ht fun b => ?_
  obtain ⟨cd, hc, hd⟩ := any_some hh
  refine wpAny_bind (wpAny_pure (wpAny_bind (instanceDict_exc hx (looks_clsIn inK hc) hd ?_)))
  show wpAny _ _ (Builtin.ObjectAttr.storeInDict s.heap.objs.size (.str name tk) name v) _ _ _
  obtain ⟨hp, g, d, t, os⟩ := s
  have far : x ≠ hp.objs.size := Nat.ne_of_lt lt
  have at1 : (hp.push (dictOf [] 0)).get? x = some (excObj C t1 none .none) := Heap.get?_push_of_some _ hx
  refine PySem.HandSPX.store_in_new ⟨_, #[], _, (Heap.get?_update_ne _ _ _ _ far.symm).trans (Heap.get?_push_at rfl rfl), rfl, fun e he => absurd he (by simp), fun _ => rfl⟩ fun h' tk' hn hs => ?_
  refine q h' tk' (fun b o nb e => ?_) ?_ hn
  · exact (hs.2 b (Nat.ne_of_lt (Heap.lt_size e))).trans ((Heap.get?_update_ne _ _ _ _ nb).trans (Heap.get?_push_of_some _ e))
  · exact (hs.2 x far).trans (Heap.get?_update_self _ at1 rfl)
/-- .. that has its dict at dx -/
theorem osb_old {dx : Addr} {m0 : Str → Option Value} {nl : List Str} (SF : StoreFacts B bmB "object.__setattr__" "object") (inK : K.In s.heap) (hx : s.heap.get? x = some (excObj C t1 (some dx) .none)) (hns : s.heap.Ns1 dx m0) (hw : Within m0 nl) (few : nl.length ≤ 1000)
    (ov : excOver K C bmB = true) (ht : takerIn K C name = some none) (hh : hasDictIn K C = true)
    (q : ∀ h' tk', (∀ b o, b ≠ dx → s.heap.get? b = some o → h'.get? b = some o) → h'.Ns1 dx (fun y => if y = name then some v else m0 y) → R (.ok (.ret .none)) { s with heap := h', toks := tk' }) :
    codeAny (model prog w) A (.call (.builtin "object.__setattr__") ⟨[.ref x, .str name tk, v], []⟩) R s := by
  obtain ⟨oD, _, _, hoD, _, _⟩ := hns.count hw
  refine osa_openX (od := some oD) SF inK ⟨hx, rfl, rfl, hoD⟩ ov ht fun b => ?_
  obtain ⟨cd, hc, hd⟩ := any_some hh
  refine wpAny_bind (wpAny_pure (wpAny_bind (wpAny_bind (wpAny_loadPart hx (wpAny_bind ((looks_clsIn inK hc).here ?_))))))
  rw [hd]
  refine wpAny_pure (a := some dx) ?_
  show wpAny _ _ (Builtin.ObjectAttr.storeInDict dx (.str name tk) name v) _ _ _
  obtain ⟨hp, g, d, t, os⟩ := s
  exact PySem.OEX.store_in_old hns hw few fun h' tk' hn hs => q h' tk' (fun b o nb e => (hs.2 b nb).trans e) hn
end
section
variable {X : Cx} {pins : List (Addr × Obj)} {σ : L2.St} {H : Hp} {s : Shared} {newId initId : String} {bmB : List Value} {a C dx : Addr} {f : Str} {y : V} {u : Value} {fs : List (Str × V)} {Q : Unit → Shared → Prop} {E : Value → Shared → Prop} {A : Around}
/-- an exception gets its dict: what is held then -/
theorem inv_dict {h' : Heap} {t' : Nat} {t1 : Addr} (I : Inv X pins σ H s) (e : H a = some (exo a C none)) (far : s.heap.objs.size ≤ dx) (k : ∀ b o, b ≠ a → s.heap.get? b = some o → h'.get? b = some o)
    (hx : h'.get? a = some (PySem.W.excObj C t1 (some dx) .none)) (ok : ObjOk X.prog X.w H h' dx (exd dx fs)) :
    Inv X pins σ (L2.upd (L2.upd H dx (exd dx fs)) a (exo a C (some dx))) { s with heap := h', toks := t' } := by
  have free : H dx = none := I.hok.fresh far
  have ad : dx ≠ a := fun z => by rw [z, e] at free; cases free
  have old : ∀ {b o}, s.heap.get? b = some o → b ≠ dx := fun {b o} z => Nat.ne_of_lt (Nat.lt_of_lt_of_le (Heap.lt_size z) far)
  have off : ∀ {b}, b ≠ a → b ≠ dx → L2.upd (L2.upd H dx (exd dx fs)) a (exo a C (some dx)) b = H b := fun {b} z1 z2 => by rw [upd_ne z1, upd_ne z2]
  have nota : ∀ {b}, H b = none → b ≠ a := fun {b} n z => by rw [z, e] at n; cases n
  have tr : ∀ {b o}, H b = some o → exo a C none ≠ o → b ≠ a ∧ b ≠ dx := fun {b o} z n => ⟨at_ne e z n, ne_of_none z free⟩
  refine I.un ⟨fun b o z n _ _ => k b o (nota n) z, fun b o z n _ _ => ⟨o.slots, k b o (nota n) z⟩, fun b o z n _ => by rw [off (nota n) (old z)]; exact n, fun b o z _ => ?_,
    fun b xs z => ?_, fun b o v z => ?_, fun b ps z => ⟨#[], ?_⟩⟩ fun b o z => ?_
  · by_cases q : b = a
    · rw [q]; exact ⟨_, hx⟩
    · exact ⟨o, k b o q z⟩
  · obtain ⟨z1, z2⟩ := tr z exo_tup
    rw [off z1 z2]; exact z
  · obtain ⟨z1, z2⟩ := tr z exo_frz
    rw [off z1 z2]; exact z
  · obtain ⟨z1, z2⟩ := tr z exo_tbl
    rw [off z1 z2, z]; simp
  · have keepO : ∀ c q, H c = some (.own q) → L2.upd (L2.upd H dx (exd dx fs)) a (exo a C (some dx)) c = some (.own q) := fun c q hc => by
      obtain ⟨z1, z2⟩ := tr hc exo_own
      rw [off z1 z2]; exact hc
    have keepT : ∀ c xs, H c = some (.tup xs) → L2.upd (L2.upd H dx (exd dx fs)) a (exo a C (some dx)) c = some (.tup xs) := fun c xs hc => by
      obtain ⟨z1, z2⟩ := tr hc exo_tup
      rw [off z1 z2]; exact hc
    by_cases q : b = a
    · rw [q, upd_same] at z
      cases z
      rw [q]
      exact exo_ok hx
    · rw [upd_ne q] at z
      by_cases qd : b = dx
      · rw [qd, upd_same] at z
        cases z
        rw [qd]
        exact ok.stay (fun c v _ w => w) (keepO · _) keepT
      · rw [upd_ne qd] at z
        refine (I.hok b o z).stay (fun c v hc w => k c v ?_ w) (keepO · _) keepT
        rcases hc with hc | hc
        · rw [hc]; exact q
        · exact (tr hc exo_own).1
/-- self.f = y, the first one -/
theorem stb_new (T : OexB X.K newId initId bmB C) (I : Inv X pins σ H s) (e : H a = some (exo a C none)) (ht : PySem.W.takerIn X.K C f = some none) (ry : RelV y u)
    (q : ∀ dx s', H dx = none → dx ≠ a → Inv X pins σ (L2.upd (L2.upd H dx (exd dx [(f, y)])) a (exo a C (some dx))) s' → Q () s') : wpAny (model X.prog X.w) A (setAttr (.ref a) f u) Q E s := by
  obtain ⟨t1, ho⟩ := exo_at I.hok e
  obtain ⟨_, _, SF⟩ := T.bf.ex
  refine PySem.W.set_plain (od := none) I.kIn ⟨ho, rfl, rfl, trivial⟩ T.sa ?_
  refine osb_new (s := { s with toks := s.toks + 1 }) SF I.kIn ho T.ov ht T.hd fun h' tk' k hx hn => ?_
  have free : H s.heap.objs.size = none := I.hok.fresh (Nat.le_refl _)
  refine q s.heap.objs.size _ free (fun z => by rw [z, e] at free; cases free) (inv_dict (I.tok _) e (Nat.le_refl _) k hx (exd_ok hn (relO_put (fs := []) ry fun _ => True.intro)))
/-- self.f = y, a further one -/
theorem stb_old (T : OexB X.K newId initId bmB C) (I : Inv X pins σ H s) (e : H a = some (exo a C (some dx))) (ed : H dx = some (exd dx fs)) (few : fs.length ≤ 900) (ht : PySem.W.takerIn X.K C f = some none) (ry : RelV y u)
    (q : ∀ s', Inv X pins σ (L2.upd H dx (exd dx ((f, y) :: fs))) s' → Q () s') : wpAny (model X.prog X.w) A (setAttr (.ref a) f u) Q E s := by
  obtain ⟨t1, ho⟩ := exo_at I.hok e
  obtain ⟨mA, hns, rel⟩ := exd_at I.hok ed
  obtain ⟨_, _, SF⟩ := T.bf.ex
  obtain ⟨oD, _, _, hoD, _, _⟩ := hns.count (within_of rel)
  refine PySem.W.set_plain (od := some oD) I.kIn ⟨ho, rfl, rfl, hoD⟩ T.sa ?_
  refine osb_old (s := { s with toks := s.toks + 1 }) SF I.kIn ho hns (within_of rel) (by rw [List.length_map]; omega) T.ov ht T.hd fun h' tk' k hn => ?_
  obtain ⟨o, es, ep, he, r⟩ := id hn
  exact q _ (I.write (t' := tk') (x := dx) (e := dx) (by rw [ed]; exact True.intro) (.inl rfl) k ⟨o, he⟩ (exd_ok hn (relO_put ry rel)))
/-- Base.__init__(self, ..): nothing of it is told -/
theorem initb_ok {us : List Value} {Q : Value → Shared → Prop} (T : OexB X.K newId initId bmB C) (I : Inv X pins σ H s) (e : H a = some (exo a C none)) (few : us.length ≤ sizeLine) (q : ∀ s', Inv X pins σ H s' → Q .none s') :
    wpAny (model X.prog X.w) A (call (.builtin initId) (.ref a :: us)) Q E s := by
  obtain ⟨_, BF, _⟩ := T.bf.ex
  obtain ⟨nm, N, qn, bs, bm, hdct, sn, sub, ab, col, dd, k0, k1, k2, k3, k5, hC, hT⟩ := PySem.W.excInit_of I.kIn T.ini
  obtain ⟨t1, ho⟩ := exo_at I.hok e
  obtain ⟨hp, g, d, t, os⟩ := s
  refine wpAny_call (PySem.HandSPX.init_base BF hT hC ho few fun h' t2 k hx => ?_)
  have J := I.write (t' := t) (x := a) (e := a) (o := exo a C none) (by rw [e]; exact True.intro) (.inl rfl) k ⟨_, hx⟩ (exo_ok hx)
  have same : L2.upd H a (exo a C none) = H := funext fun b => by
    by_cases z : b = a
    · rw [z, upd_same, e]
    · rw [upd_ne z]
  exact q _ (same ▸ J)
end
/-! ### readings and rules -/
def tBI (K : PySem.W.Frag) (newId initId : String) (bmB : List Value) (ta : TA) : TE := fun σ H Q => ta σ H fun vs H1 =>
  ∃ (a C : Addr) (ws : List V), vs = .ref a :: ws ∧ ws.length ≤ 1000 ∧ OexB K newId initId bmB C ∧ H1 a = some (exo a C none) ∧ Q .non H1
def tStB (K : PySem.W.Frag) (newId initId : String) (bmB : List Value) (f : Str) (to te : TE) : TS := fun D σ H => te σ H fun y H1 => to σ H1 fun x H2 => ∃ a C : Addr, x = .ref a ∧ OexB K newId initId bmB C ∧ PySem.W.takerIn K C f = some none ∧
  ((H2 a = some (exo a C none) ∧ ∀ dx, H2 dx = none → dx ≠ a → D.nx σ (L2.upd (L2.upd H2 dx (exd dx [(f, y)])) a (exo a C (some dx)))) ∨
    ∃ (dx : Addr) (fs : List (Str × V)), H2 a = some (exo a C (some dx)) ∧ H2 dx = some (exd dx fs) ∧ fs.length ≤ 900 ∧ D.nx σ (L2.upd H2 dx (exd dx ((f, y) :: fs))))
/-- what the class CB hands out as its __init__: that of its built-in base -/
structure InitB (K : PySem.W.Frag) (initId : String) (CB : Addr) : Prop where
  sp : PySem.W.specialIn K (.ref CB) "__getattribute__" = some (some (.builtin "type.__getattribute__"))
  rd : PySem.W.readsIn K CB (.type "type") = true
  fc : PySem.W.findCls K (.ref CB) (.type "type") "__init__" = some (.val (.builtin initId))
section
variable {X : Cx} {o e : Expr} {es : List Expr} {to te : TE} {ta : TA} {f x : Str} {p p' p1 p2 pos : Pos} {newId initId : String} {bmB : List Value} {CB : Addr}
theorem pe_binit {pl : Sem Bool} (hg : Gl X x) (hm : X.mg x = some (.ref CB)) (hb : BaseF newId initId bmB) (ib : InitB X.K initId CB) (ha : PA X (e :: es) ta)
    (hdb : (x == ("__debug__" : Str)) = false := by decide)
    (hc : eval (.Call (.Attribute (.Name x p1) "__init__" p2) (e :: es) [] pos) X.env = (do
      let ov ← eval (.Name x p1) X.env
      standAt p2.atName
      let (f, first) ← holding [ov] (getMethod ov "__init__" pl)
      callWith pos f first (backTo pos (starEach (e :: es) X.env)) (backToKw pos (keywordEach [] X.env))) := by rfl)
    (he : starEach (e :: es) X.env = (false, eval e X.env) :: starEach es X.env := by rfl) (hpl : (backTo pos (starEach es X.env)).any (·.1) = false := by rfl) :
    PE X (.Call (.Attribute (.Name x p1) "__init__" p2) (e :: es) [] pos) (tBI X.K newId initId bmB ta) := by
  refine ⟨fun pins s σ H Q I q => ?_⟩
  refine PySem.W.methodCall_KW (ld_glob I hg hm ?_ hdb) hc
  refine PySem.W.method_cls I.kIn ib.sp (PySem.W.cls_value I.kIn ib.rd ib.fc hb.hand ?_)
  show wpAny _ _ (callWith pos (Value.builtin initId) [] (backTo pos (starEach (e :: es) X.env)) []) _ _ _
  refine PyProof.Rows.callWith_method1 (thn (ha.run pos pins _ σ H _ (I.tok _) q) fun us s1 ⟨vs, H1, I1, r1, a, C, ws, ev, few, T, ea, q⟩ => ?_) he hpl
  subst ev
  cases r1 with
  | @cons _ u0 _ ur ra rw' =>
    obtain rfl : u0 = Value.ref a := ra
    exact initb_ok T I1 ea (by rw [← Paired.length rw', sizeLine_eq]; omega) fun s' J => ⟨.non, H1, J, rfl, q⟩
theorem ps_stB (ho : PE X o to) (he : PE X e te) (hs : swapsWith e (some (.Attribute o f p')) pos.line X.env = pure false := by rfl) : PS X (.Assign [.Attribute o f p'] e pos) (tStB X.K newId initId bmB f to te) := by
  refine ⟨fun pins s σ H D I q => ?_⟩
  refine plainObj_wpAny_Assign_Attribute (thn (he.run pins s σ H _ I q) fun v s1 ⟨y, H1, I1, r1, q1⟩ => thn (ho.run pins s1 σ H1 _ I1 q1) fun u s2 ⟨x, H2, I2, r2, a, C, ex, T, ht, q⟩ => ?_) hs
  subst ex
  obtain rfl : u = Value.ref a := r2
  rcases q with ⟨ea, q⟩ | ⟨dx, fs, ea, ed, hl, q⟩
  · exact stb_new T I2 ea ht r1 fun dx s' n ne J => ⟨σ, _, J, q dx n ne⟩
  · exact stb_old T I2 ea ed hl ht r1 fun s' J => ⟨σ, _, J, q⟩
/-- C(e, ..) as what is raised -/
theorem pmk_B {CX : CXT} {C fI : Addr} {k : Nat} {fd : FuncData} {ps : List Str} {sp : Sp} (T : OexB X.K newId initId bmB C) (iC : PySem.W.findIn X.K (.ref C) "__init__" = some (some (.ref fI))) (tI : PySem.W.typeIn X.K (.ref fI) = some (.type "function"))
    (G : FnOk X.prog X.w X.K X.mg X.base CX k fI fd ps sp) (hr : Room (k + 1) X.A) (hb : Binds X.K fd ps []) (hx : Passes CX X (fun _ _ _ => False)) (hg : Gl X x) (hm : X.mg x = some (.ref C)) (ha : PA X (e :: es) ta)
    (hdb : (x == ("__debug__" : Str)) = false := by decide) (he : starEach (e :: es) X.env = (false, eval e X.env) :: starEach es X.env := by rfl) (hpl : (backTo pos (starEach es X.env)).any (·.1) = false := by rfl) :
    PMk X (.Call (.Name x p) (e :: es) [] pos) (tMkO C sp [] ta) := by
  intro pins s σ H Q I q
  obtain ⟨_, BF, _⟩ := T.bf.ex
  refine wpAny_Call_Name_kw (ld_glob I hg hm ?_ hdb)
  refine PySem.W.callWith_K (h₀ := X.base) I.ok.mod.kin T.kC (thn (ha.run pos pins s σ H _ I q) fun us s1 ⟨vs, H1, J, r, few, q1⟩ => ⟨J.kIn, ?_⟩) he hpl
  show wpAny _ _ (call (.ref C) us) _ _ _
  obtain ⟨nm, N, qn, bs, bm, hdct, sn, sub, ab, col, dd, k0, k1, k2, k3, k5, hC, hT⟩ := PySem.W.excInit_of J.kIn T.ini
  obtain ⟨hp, g, dr, tk, os⟩ := s1
  have up : hp.objs.size ≤ hp.objs.size + 1 := Nat.le_succ _
  have free : H1 (hp.objs.size + 1) = none := J.hok.fresh up
  have kk : ∀ b o, hp.get? b = some o → ((hp.push (PySem.W.kdv_tup us)).push (PySem.HandSPX.excO C hp.objs.size)).get? b = some o := fun b o z => Heap.get?_push_of_some _ (Heap.get?_push_of_some _ z)
  have there : ((hp.push (PySem.W.kdv_tup us)).push (PySem.HandSPX.excO C hp.objs.size)).get? (hp.objs.size + 1) = some (PySem.HandSPX.excO C hp.objs.size) := by heap_get
  have J2 := J.laid (t' := tk) (a := hp.objs.size + 1) (o := exo (hp.objs.size + 1) C none) (h' := (hp.push (PySem.W.kdv_tup us)).push (PySem.HandSPX.excO C hp.objs.size)) kk up (exo_ok there)
  have q2 := q1 (hp.objs.size + 1) free
  rw [List.append_nil] at q2
  have r2 : Vals (V.ref (hp.objs.size + 1) :: vs) (Value.ref (hp.objs.size + 1) :: us) := .cons rfl r
  have len : (Value.ref (hp.objs.size + 1) :: us ++ []).length = ps.length := by
    rw [List.append_nil]
    exact (r2.length.symm.trans (G.len _ _ _ _ q2))
  have fits : us.length ≤ sizeLine := by rw [← Paired.length r, sizeLine_eq]; omega
  have bind := hb ⟨(hp.push (PySem.W.kdv_tup us)).push (PySem.HandSPX.excO C hp.objs.size), g, dr, tk, os⟩ (Value.ref (hp.objs.size + 1) :: us) J2.kIn len
  rw [List.append_nil] at bind
  refine wpAny_call (PySem.HandSPX.call_own BF hT hC (PySem.W.looks_findIn J.kIn iC) (fun self => PySem.W.bind_fn J.kIn self tI) fits
    (codeAny_mono (G.run _ X.stack _ _ ⟨Value.ref (hp.objs.size + 1) :: us, []⟩ _ _ _ (fun _ _ _ => False) (hr.make C us []) (J2.env0.make C us []) bind r2 q2) fun r s' hq => ?_))
  match r, hq with
  | .error er, hq => exact hx pins σ _ _ er s' J2 hq
  | .ok .next, hq => exact False.elim hq
  | .ok .brk, hq => exact False.elim hq
  | .ok .cont, hq => exact False.elim hq
  | .ok (.ret u), ⟨v, H2, os2, bare2, un2, hok2, rv, ev, d, fs, ea, ed, hd1, q3⟩ =>
    subst ev
    obtain ⟨h2, g2, d2, t2, os'⟩ := s'
    exact ⟨rv, mk_end (raises_own T.exC T.tyC) J up kk un2 hok2 os2 bare2 ea ed hd1 q3⟩
end
/-- all that is asked of an own exception class -/
structure ExT (K : PySem.W.Frag) (newId initId : String) (bmB : List Value) (C : Addr) : Prop where
  o : OexB K newId initId bmB C
  ga : PySem.W.findIn K (.ref C) "__getattribute__" = some (some (.builtin "BaseException.__getattribute__"))
  gg : PySem.W.findIn K (.ref C) "__getattr__" = some none
  cl : PySem.W.findIn K (.ref C) "__class__" = some (some (.builtin "object.__class__"))
  hm : PySem.W.mroIn K C (.type "object") = some true
structure ClassGet (K : PySem.W.Frag) : Prop where
  hn : PySem.W.specialIn K (.builtin "object.__class__") "__get__" = some (some (.builtin "getset_descriptor.__get__"))
  ht : PySem.W.takesIn K (.builtin "object.__class__") = some true
theorem ExT.xf {K : PySem.W.Frag} {newId initId : String} {bmB : List Value} {C : Addr} (T : ExT K newId initId bmB C) : XfC K C := ⟨T.ga, T.gg, T.o.exC, T.o.hd⟩
/-- an except clause's class -/
theorem ExT.exm {K : PySem.W.Frag} {n1 n2 i1 i2 : String} {b1 b2 : List Value} {C D : Addr} {b : Bool} (_T : ExT K n1 i1 b1 C) (S : ExT K n2 i2 b2 D) (h : PySem.W.subIn K (.ref C) (.ref D) = some b) : PySem.W.exmOne K (.ref C) (.ref D) = some b :=
  PySem.W.exm_ref S.o.exC S.o.hd S.o.tyC h
/-- isinstance(e, c), e the exception that the suite holds: its class D and dict are told -/
def rIsX (K : PySem.W.Frag) (cls : Value) (d : Option Addr) (a : Addr) : List V → Hp → VK → Prop := fun xs H Q => ∃ (D : Addr) (c : V) (cv : Value) (b : Bool), cls = .ref D ∧ (∃ n i m, ExT K n i m D) ∧ ClassGet K ∧ xs = [.ref a, c] ∧ (∀ u, RelV c u → u = cv) ∧ PySem.W.kitOne K (.ref D) cv = some b ∧
  (∀ dd, d = some dd → ∃ fs, H dd = some (.xd fs)) ∧ Q (.bl b) H
theorem i_isX {K : PySem.W.Frag} {a D : Addr} {d : Option Addr} {c : V} {cv : Value} {b : Bool} {n i : String} {m : List Value} {H : Hp} {Q : VK} (T : ExT K n i m D) (G : ClassGet K) (h : ∀ u, RelV c u → u = cv) (k : PySem.W.kitOne K (.ref D) cv = some b) (hd : ∀ dd, d = some dd → ∃ fs, H dd = some (.xd fs)) (q : Q (.bl b) H) :
    rIsX K (.ref D) d a [.ref a, c] H Q := ⟨D, c, cv, b, rfl, ⟨n, i, m, T⟩, G, rfl, h, k, hd, q⟩
theorem rel_ref {a : Addr} : ∀ u, RelV (.ref a) u → u = Value.ref a := fun u r => r
theorem rel_ty {n : String} : ∀ u, RelV (.ty n) u → u = Value.type n := fun u r => r
theorem hasD {K : PySem.W.Frag} {C : Addr} (h : PySem.W.hasDictIn K C = true) : (PySem.W.clsIn K C).isSome = true := by
  obtain ⟨cd, hc, _⟩ := PySem.W.any_some h
  rw [hc]; rfl
theorem call_isX {X : Cx} {a : Addr} {cls : Value} {d : Option Addr} {oe : Obj} {pn : List (Addr × Obj)} (hz : Zc cls d oe) (hf : ∃ vs, oe.data = .fields vs) : CallR (X.suite a ((a, oe) :: pn)) (.builtin "isinstance") (rIsX X.K cls d a) := by
  intro pins s σ H xs us Q I r h
  obtain ⟨D, c, cv, b, rfl, ⟨_, _, _, T⟩, G, rfl, hcv, k, hd, q⟩ := h
  obtain ⟨u1, u2, rfl, r1, r2⟩ : ∃ u1 u2, us = [u1, u2] ∧ RelV (.ref a) u1 ∧ RelV c u2 := by
    cases r with
    | cons r1 r => cases r with
      | cons r2 r => cases r; exact ⟨_, _, rfl, r1, r2⟩
  cases r1
  obtain rfl := hcv _ r2
  obtain ⟨there, _⟩ := I.pin (a, oe) (List.mem_append.mpr (.inl List.mem_cons_self))
  obtain ⟨vs, hv⟩ := hf
  have nc : PySem.W.notCls oe = true := by unfold PySem.W.notCls; rw [hv] <;> rfl
  have J : ∃ od, PySem.W.InstAt s.heap a oe D od := by
    cases d with
    | none => exact ⟨none, there, hz.1, nc, by rw [hz.2]; trivial⟩
    | some dd =>
      obtain ⟨fs, e⟩ := hd dd rfl
      obtain ⟨mA, ⟨o, es, ep, ho, _⟩, _⟩ : ObjOk X.prog X.w H s.heap dd (.xd fs) := I.hok dd _ e
      exact ⟨some o, there, hz.1, nc, by rw [hz.2]; exact ho⟩
  obtain ⟨od, J⟩ := J
  exact PySem.W.kia_one (PySem.W.kitx_exc (hasD T.o.hd) T.ga T.gg T.o.exC T.cl G.hn G.ht T.hm) I.kIn J k (fun z => nomatch z) fun tk => ⟨.bl b, H, I.kept (t' := tk) fun _ _ z => z, rfl, q⟩
/-- repr within an except suite -/
theorem call_reprS {X : Cx} {a : Addr} {pn : List (Addr × Obj)} {k : Nat} (hr : Rg k X.A) : CallR (X.suite a pn) (.builtin "repr") (rRepr X.K) :=
  call_reprD (X := X.suite a pn) hr.gd (by have := hr.room.un; show X.A.units + 100 < cLine; omega)
/-! ### readings -/
section
variable {K : PySem.W.Frag} {σ : L2.St} {H : Hp} {Q : VK} {newId initId : String} {bmB : List Value}
theorem i_bi {ta : TA} (q : ta σ H fun vs H1 => ∃ (a C : Addr) (ws : List V), vs = .ref a :: ws ∧ ws.length ≤ 1000 ∧ OexB K newId initId bmB C ∧ H1 a = some (exo a C none) ∧ Q .non H1) : tBI K newId initId bmB ta σ H Q := q
theorem i_stB {f : Str} {to te : TE} {nx bk ct : L2.St → Hp → Prop} (q : te σ H fun y H1 => to σ H1 fun x H2 => ∃ a C : Addr, x = .ref a ∧ OexB K newId initId bmB C ∧ PySem.W.takerIn K C f = some none ∧
    ((H2 a = some (exo a C none) ∧ ∀ dx, H2 dx = none → dx ≠ a → nx σ (L2.upd (L2.upd H2 dx (exd dx [(f, y)])) a (exo a C (some dx)))) ∨
      ∃ (dx : Addr) (fs : List (Str × V)), H2 a = some (exo a C (some dx)) ∧ H2 dx = some (exd dx fs) ∧ fs.length ≤ 900 ∧ nx σ (L2.upd H2 dx (exd dx ((f, y) :: fs))))) : tStB K newId initId bmB f to te ⟨nx, Q, bk, ct⟩ σ H := q
/-- what an __init__ promises that stores its arguments, in order, as the fields fs -/
def spI (C : Addr) (fs : List Str) : Sp := fun vs H Q _ => ∃ (a : Addr) (ws : List V), vs = .ref a :: ws ∧ ws.length = fs.length ∧ H a = some (exo a C none) ∧
  ∀ d H', H d = none → d ≠ a → H' a = some (exo a C (some d)) → H' d = some (exd d (fs.zip ws).reverse) → (∀ b, b ≠ a → b ≠ d → H' b = H b) → Q .non H'
/-- C(..) that is raised: what is asked behind the arguments -/
def MkR (C : Addr) (sp : Sp) (vs : List V) (H1 : Hp) (W : XK) : Prop := vs.length ≤ 1000 ∧ ∀ a, H1 a = none → sp (.ref a :: (vs ++ [])) (L2.upd H1 a (exo a C none))
  (fun v H2 => v = .non ∧ ∃ (d : Addr) (fs : List (Str × V)), H2 a = some (exo a C (some d)) ∧ H2 d = some (exd d fs) ∧ H1 d = none ∧ W (.ref C) (some d) (L2.upd (del H2 a) d (.xd fs))) (fun _ _ _ => False)
theorem i_mk0 {C : Addr} {sp : Sp} {ta : TA} {W : XK} (q : ta σ H fun vs H1 => MkR C sp vs H1 W) : tMkO C sp [] ta σ H W := q
/-- .. over a heap that is told by what it holds -/
theorem i_mkR {C : Addr} {fs : List Str} {vs : List V} {W : XK} (hl : vs.length = fs.length) (few : fs.length ≤ 1000) (h : ∀ d H2, H d = none → Same H H2 → H2 d = some (.xd (fs.zip vs).reverse) → W (.ref C) (some d) H2) : MkR C (spI C fs) vs H W := by
  refine ⟨by omega, fun a ha => ⟨a, vs, by rw [List.append_nil], hl, upd_same, fun d H' hd ne ea ed off => ⟨rfl, d, _, ea, ed, by rwa [upd_ne ne] at hd, ?_⟩⟩⟩
  rw [upd_ne ne] at hd
  refine h d _ hd (fun b o e => ?_) upd_same
  have n1 : b ≠ a := ne_of_none e ha
  have n2 : b ≠ d := ne_of_none e hd
  rw [upd_ne n2, del_ne n1, off b n1 n2, upd_ne n1]
  exact e
end
def tRaise (t : L2.St → Hp → XK → Prop) (W : WX) : TS := fun _ σ H => t σ H fun cls d H' => W cls d σ H'
theorem ps_raiseN {X : Cx} {W : WX} {e : Expr} {t : L2.St → Hp → XK → Prop} {pos : Pos} (hc : X.calm = true) (tk : Takes X W) (he : PMk X e t) : PS X (.Raise (some e) none pos) (tRaise t W) := ps_raise hc tk he
theorem i_raise {t : L2.St → Hp → XK → Prop} {W : WX} {D : Ends} {σ : L2.St} {H : Hp} (q : t σ H fun cls d H' => W cls d σ H') : tRaise t W D σ H := q
/-- a call that may raise, in a try's body -/
def tCallX (sp : Sp) (E : L2.St → XK) (t : TA) : TE := fun σ H Q => t σ H fun vs H1 => sp vs H1 Q (E σ)
theorem pe_callX {X : Cx} {CX : CXT} {k : Nat} {f : Addr} {fd : FuncData} {ps : List Str} {sp : Sp} {E : L2.St → XK} {x : Str} {p pos : Pos} {e : Expr} {es : List Expr} {t : TA} (F : FnOk X.prog X.w X.K X.mg X.base CX k f fd ps sp) (hr : Room k X.A) (hg : Gl X x) (hm : X.mg x = some (.ref f))
    (hk : PySem.W.keepIn X.K (.ref f) = true) (hb : Binds X.K fd ps []) (hx : ∀ σ, PassesAt CX X σ (E σ)) (ha : PA X (e :: es) t) (hdb : (x == ("__debug__" : Str)) = false := by decide)
    (he : starEach (e :: es) X.env = (false, eval e X.env) :: starEach es X.env := by rfl) (hpl : (backTo pos (starEach es X.env)).any (·.1) = false := by rfl) : PE X (.Call (.Name x p) (e :: es) [] pos) (tCallX sp E t) :=
  pe_callS F hr hg hm hk hb hx ha hdb he hpl
theorem i_callX {sp : Sp} {E : L2.St → XK} {t : TA} {σ : L2.St} {H : Hp} {Q : VK} (q : t σ H fun vs H1 => sp vs H1 Q (E σ)) : tCallX sp E t σ H Q := q
/-- try: tb / except c as n (slot i): ts -/
def tTryAs (K : PySem.W.Frag) (c : Value) (i : Nat) (tb : WX → TS) (ts : Addr → Value → Option Addr → TS) (Wout : WX) : TS := fun D σ H => tb (wAs K c i ts Wout D) D σ H
theorem ps_tryN {X : Cx} {x n : Str} {c : Value} {i : Nat} {body suite : List Stmt} {b₀ : Stmt} {np pos pos' : Pos} {tb : WX → TS} {ts : Addr → Value → Option Addr → TS} {Wout : WX} (hs : X.stack = X.env :: X.outer) (hf : X.env.frame = some X.env.locals) (hN : X.N.Nodup) (hi : X.N[i]? = some n) (hln : X.env.kindOf n = some .local)
    (hc : Names X x c) (tk : Takes X Wout) (hb : ∀ (W : WX) (pn : List (Addr × Obj)) (xe : Value → Shared → Prop), Takes (X.tr pn xe) W → PassesOwn (model X.prog X.w) X.A X.env xe → PSs (X.tr pn xe) body (tb W))
    (hsu : ∀ (a : Addr) (oe : Obj) (cls : Value) (d : Option Addr) (pn : List (Addr × Obj)), Zc cls d oe → (∃ vs, oe.data = .fields vs) → PSs (X.suite a ((a, oe) :: pn)) (b₀ :: suite) (ts a cls d)) :
    PS X (.Try body [.ExceptHandler (some (.Name x np)) (some n) (b₀ :: suite) pos'] [] [] pos) (tTryAs X.K c i tb ts Wout) := ps_try_as hs hf hN hi hln hc tk hb hsu
theorem i_tryN {K : PySem.W.Frag} {c : Value} {i : Nat} {tb : WX → TS} {ts : Addr → Value → Option Addr → TS} {Wout : WX} {D : Ends} {σ : L2.St} {H : Hp} (q : tb (wAs K c i ts Wout D) D σ H) : tTryAs K c i tb ts Wout D σ H := q
/-- the clause takes it -/
theorem i_took {K : PySem.W.Frag} {c cls : Value} {i : Nat} {ts : Addr → Value → Option Addr → TS} {Wout : WX} {D : Ends} {σ : L2.St} {H : Hp} {d : Option Addr} (e : PySem.W.exmOne K cls c = some true)
    (q : ∀ a, H a = none → ts a cls d { nx := fun σ' H' => D.nx (σ'.set i none) H', rt := D.rt, bk := fun σ' H' => D.bk (σ'.set i none) H', ct := fun σ' H' => D.ct (σ'.set i none) H' } (σ.set i (some (.ref a))) H) : WE (wAs K c i ts Wout D) σ cls d H :=
  ⟨true, e, fun _ => q, fun z => Bool.noConfusion z⟩
/-- e.n, e the exception that the suite holds -/
def tXn (K : PySem.W.Frag) (a : Addr) (cls : Value) (d : Option Addr) (n : Str) (te : TE) : TE := fun σ H Q => ∃ C : Addr, cls = .ref C ∧ XfC K C ∧ PySem.W.findIn K (.ref C) n = some none ∧ tXf a cls d C n te σ H Q
theorem pe_xfN {X : Cx} {a : Addr} {oe : Obj} {cls : Value} {d : Option Addr} {pn : List (Addr × Obj)} {e : Expr} {te : TE} {pos : Pos} {n : Str} (hz : Zc cls d oe) (hf : ∃ vs, oe.data = .fields vs) (he : PE (X.suite a ((a, oe) :: pn)) e te)
    (hb : attributeBase e n X.env (eval e X.env) = eval e X.env := by rfl) : PE (X.suite a ((a, oe) :: pn)) (.Attribute e n pos) (tXn X.K a cls d n te) :=
  ⟨fun pins s σ H Q I ⟨_, _, T, hno, q⟩ => (pe_xf T hno hz hf he hb).run pins s σ H Q I q⟩
theorem i_xfN {K : PySem.W.Frag} {a C dd : Addr} {n : Str} {te : TE} {σ : L2.St} {H : Hp} {Q : VK} (T : XfC K C) (hno : PySem.W.findIn K (.ref C) n = some none)
    (q : te σ H fun x H1 => x = .ref a ∧ ∃ (fs : List (Str × V)) (v : V), H1 dd = some (.xd fs) ∧ fs.lookup n = some v ∧ Q v H1) (mono : ∀ Q Q' : VK, (∀ v H, Q v H → Q' v H) → te σ H Q → te σ H Q') : tXn K a (.ref C) (some dd) n te σ H Q :=
  ⟨C, rfl, T, hno, mono _ _ (fun x H1 ⟨e, fs, v, h1, h2, h3⟩ => ⟨e, rfl, dd, fs, v, rfl, h1, h2, h3⟩) q⟩
/-- .. at a slot -/
theorem i_xfV {K : PySem.W.Frag} {a C dd : Addr} {n : Str} {i : Nat} {σ : L2.St} {H : Hp} {Q : VK} {fs : List (Str × V)} {v : V} (T : XfC K C) (hno : PySem.W.findIn K (.ref C) n = some none) (h : σ[i]? = some (some (.ref a))) (e : H dd = some (.xd fs)) (l : fs.lookup n = some v) (q : Q v H) :
    tXn K a (.ref C) (some dd) n (tVar i) σ H Q := ⟨C, rfl, T, hno, .ref a, h, rfl, rfl, dd, fs, v, rfl, e, l, q⟩
end KX

namespace KX
open PySem PySem.Spec PyProof.Rows L2
/-! ### further readings: texts, is, == of data -/
def rIsN : R2 := fun x y H Q => y = .non ∧ Q (.bl (decide (x = .non))) H
def rIsNotN : R2 := fun x y H Q => y = .non ∧ Q (.bl (!decide (x = .non))) H
theorem op_isNN {X : Cx} : OpR X (compareOp .Is) rIsN := op_isN
theorem op_notNN {X : Cx} : OpR X (compareOp .IsNot) rIsNotN := op_notN
def rSplit : V → List V → Hp → VK → Prop := fun x xs H Q => ∃ a b, x = .str a ∧ xs = [.str b] ∧ (b.length == 0) = false ∧ a.length + 2 ≤ sizeLine ∧ NewR H (.lst ((Txt.split a b).map V.str)) Q
theorem pe_splitN {X : Cx} {o e : Expr} {to te : TE} {apos pos : Pos} (ho : PE X o to) (he : PE X e te) (hs : starEach [e] X.env = [(false, eval e X.env)] := by rfl) (hbase : attributeBase o "split" X.env (eval o X.env) = eval o X.env := by rfl) (hline : (apos.endLine == pos.line) = true := by rfl) :
    PE X (.Call (.Attribute o "split" apos) [e] [] pos) (tM1 rSplit to te) := pe_split ho he hs hbase hline
def rFind : V → List V → Hp → VK → Prop := fun x xs H Q => ∃ a b, x = .str a ∧ xs = [.str b] ∧ Q (.int (Txt.find a b)) H
theorem pe_findN {X : Cx} {o e : Expr} {to te : TE} {apos pos : Pos} (ho : PE X o to) (he : PE X e te) (hs : starEach [e] X.env = [(false, eval e X.env)] := by rfl) (hbase : attributeBase o "find" X.env (eval o X.env) = eval o X.env := by rfl) (hline : (apos.endLine == pos.line) = true := by rfl) :
    PE X (.Call (.Attribute o "find" apos) [e] [] pos) (tM1 rFind to te) := pe_m1 PySem.F.slot_str_find PySem.F.type_str_find mt_find ho he hs hbase hline
def rStrI : List V → Hp → VK → Prop := fun xs H Q => ∃ i, xs = [.int i] ∧ i.natAbs.log2 < 1920 ∧ Q (.str (toString i)) H
theorem call_strI {X : Cx} : CallR X (.type "str") rStrI := call_str_int
def rIntS : List V → Hp → VK → Prop := fun xs H Q => ∃ a n, xs = [.str a] ∧ PySem.intText? a = some n ∧ a.length ≤ 640 ∧ Q (.int n) H
theorem call_intS {X : Cx} : CallR X (.type "int") rIntS := call_int_str
/-- f'..{x}..' -/
def tFmtN (te : TE) : TE := fun σ H Q => te σ H fun x H1 => ((∃ y : Str, x = .str y ∧ y.length ≤ sizeLine ∧ Q (.str y) H1) ∨ ∃ i : Int, x = .int i ∧ i.natAbs.log2 < 1920 ∧ Q (.str (toString i)) H1)
def FmR (x : V) (H : Hp) (Q : VK) : Prop := (∃ y : Str, x = .str y ∧ y.length ≤ sizeLine ∧ Q (.str y) H) ∨ ∃ i : Int, x = .int i ∧ i.natAbs.log2 < 1920 ∧ Q (.str (toString i)) H
def tJn (ts : List TE) : TE := fun σ H Q => tJs ts Str.empty σ H fun out H1 => Q (.str out) H1
theorem pe_joinedN {X : Cx} {v1 v2 : Expr} {rest : List Expr} {ts : List TE} {pos : Pos} (h : PJ X (v1 :: v2 :: rest) ts) : PE X (.JoinedStr (v1 :: v2 :: rest) pos) (tJn ts) := pe_joined h
def JsR (ts : List TE) (acc : Str) (σ : L2.St) (R : Str → Hp → Prop) (x : V) (H : Hp) : Prop := ∃ y : Str, x = .str y ∧ (acc ++ y).length ≤ sizeLine ∧ tJs ts (acc ++ y) σ H R
/-- text[::-1] -/
def tRevS (te : TE) : TE := fun σ H Q => te σ H fun x H1 => ∃ z : Str, x = .str z ∧ z.length ≤ sizeLine ∧ Q (.str ⟨z.cps.toList.reverse.toArray⟩) H1
def tRevLN (K : PySem.W.Frag) (te : TE) : TE := fun σ H Q => te σ H fun x H1 => ∃ a xs, x = .ref a ∧ SqL K H1 a xs ∧ NewR H1 (.lst xs.reverse) Q
theorem pe_revLN {X : Cx} {e : Expr} {te : TE} {k : Nat} {p1 p2 p3 pos : Pos} (he : PE X e te) : PE X (.Subscript e (.Slice none none (some (.UnaryOp .USub (.Constant (.int 1) k p1) p2)) p3) pos) (tRevLN X.K te) := pe_revL he
theorem shaped_lay {d : PyData} (h : SeqAt.shaped d = true) : d.canLay0 = true := by
  unfold SeqAt.shaped at h
  exact (Bool.and_eq_true_iff.mp h).1
section
variable {K : PySem.W.Frag} {σ : L2.St} {H : Hp} {Q : VK}
theorem i_isNon {x : V} (q : Q (.bl (decide (x = .non))) H) : rIsN x .non H Q := ⟨rfl, q⟩
theorem i_isNotNon {x : V} (q : Q (.bl (!decide (x = .non))) H) : rIsNotN x .non H Q := ⟨rfl, q⟩
theorem i_split {a b : Str} (h : (b.length == 0) = false) (z : a.length + 2 ≤ sizeLine) (q : NewR H (.lst ((Txt.split a b).map V.str)) Q) : rSplit (.str a) [.str b] H Q := ⟨a, b, rfl, rfl, h, z, q⟩
theorem i_find {a b : Str} (q : Q (.int (Txt.find a b)) H) : rFind (.str a) [.str b] H Q := ⟨a, b, rfl, rfl, q⟩
theorem i_strI {i : Int} (h : i.natAbs.log2 < 1920) (q : Q (.str (toString i)) H) : rStrI [.int i] H Q := ⟨i, rfl, h, q⟩
theorem i_intS {a : Str} {n : Int} (h : PySem.intText? a = some n) (z : a.length ≤ 640) (q : Q (.int n) H) : rIntS [.str a] H Q := ⟨a, n, rfl, h, z, q⟩
theorem i_fmt {te : TE} (q : te σ H fun x H1 => FmR x H1 Q) : tFmt te σ H Q := q
theorem i_fmS {y : Str} (h : y.length ≤ sizeLine) (q : Q (.str y) H) : FmR (.str y) H Q := .inl ⟨y, rfl, h, q⟩
theorem i_fmI {i : Int} (h : i.natAbs.log2 < 1920) (q : Q (.str (toString i)) H) : FmR (.int i) H Q := .inr ⟨i, rfl, h, q⟩
theorem i_jn {ts : List TE} (q : tJs ts Str.empty σ H fun out H1 => Q (.str out) H1) : tJn ts σ H Q := q
theorem i_js0 {acc : Str} {R : Str → Hp → Prop} (q : R acc H) : tJs [] acc σ H R := q
theorem i_js1 {t : TE} {ts : List TE} {acc : Str} {R : Str → Hp → Prop} (q : t σ H fun x H1 => JsR ts acc σ R x H1) : tJs (t :: ts) acc σ H R := q
theorem i_jsR {y : Str} {ts : List TE} {acc : Str} {R : Str → Hp → Prop} (z : (acc ++ y).length ≤ sizeLine) (q : tJs ts (acc ++ y) σ H R) : JsR ts acc σ R (.str y) H := ⟨y, rfl, z, q⟩
theorem i_revS {te : TE} (q : te σ H fun x H1 => ∃ z : Str, x = .str z ∧ z.length ≤ sizeLine ∧ Q (.str ⟨z.cps.toList.reverse.toArray⟩) H1) : tRevS te σ H Q := q
theorem i_exrev {z : Str} {R : Prop} (h : z.length ≤ sizeLine) (q : Q (.str ⟨z.cps.toList.reverse.toArray⟩) H) : ∃ z' : Str, V.str z = .str z' ∧ z'.length ≤ sizeLine ∧ Q (.str ⟨z'.cps.toList.reverse.toArray⟩) H := ⟨z, rfl, h, q⟩
theorem i_revL {te : TE} (q : te σ H fun x H1 => ∃ a xs, x = .ref a ∧ SqL K H1 a xs ∧ NewR H1 (.lst xs.reverse) Q) : tRevLN K te σ H Q := q
theorem i_exrevL {a : Addr} {xs : List V} (h : SqL K H a xs) (q : NewR H (.lst xs.reverse) Q) : ∃ a' xs', V.ref a = .ref a' ∧ SqL K H a' xs' ∧ NewR H (.lst xs'.reverse) Q := ⟨a, xs, rfl, h, q⟩
theorem i_par3 {i j l : Nat} {t : TA} {f g1 k : L2.St → Hp → Prop} (q : t σ H fun vs H1 => ∃ u v w, vs = [u, v, w] ∧ f (((σ.set i (some u)).set j (some v)).set l (some w)) H1) : tPar3 i j l t ⟨f, Q, g1, k⟩ σ H := q
theorem i_ex3 {R : V → V → V → Prop} {u v w : V} (q : R u v w) : ∃ u' v' w', [u, v, w] = [u', v', w'] ∧ R u' v' w' := ⟨u, v, w, rfl, q⟩
theorem i_neD {b c : Bool} {x y : V} {d e : PyData} (h : DaF b K H x d) (k : DaF c K H y e) (hd : d.hasDict = false) (he : e.hasDict = false) (sd : SeqAt.shaped d = true) (se : SeqAt.shaped e = true) (q : Q (.bl (!PyData.eqv d e)) H) : rNeD K x y H Q :=
  ⟨d, e, h.dp hd, k.dp he, sd, se, q⟩
/-- the same data -/
theorem i_neDsame {b c : Bool} {x y : V} {d : PyData} (h : DaF b K H x d) (k : DaF c K H y d) (hd : d.hasDict = false) (sd : SeqAt.shaped d = true) (q : Q (.bl false) H) : rNeD K x y H Q :=
  i_neD h k hd hd sd sd (by rw [SeqAt.eqv_refl _ (shaped_lay sd)]; exact q)
end
theorem rev_signs (z : Str) : (Builtin.Str.strSliceIndices none none (-1) z.length).filterMap (z.cps[·]?) = z.cps.toList.reverse := by
  have e : Builtin.Str.strSliceIndices none none (-1) z.length = sliceRange ((z.length : Int) - 1) (-1) (-1) := rfl
  rw [e, PySem.W.krv_sliceRange, PySem.W.krv_range, List.filterMap_reverse]
  exact congrArg List.reverse (PySem.W.krv_all z.cps)
theorem pe_revS {X : Cx} {e : Expr} {te : TE} {k : Nat} {p1 p2 p3 pos : Pos} (he : PE X e te) : PE X (.Subscript e (.Slice none none (some (.UnaryOp .USub (.Constant (.int 1) k p1) p2)) p3) pos) (tRevS te) := by
  refine ⟨fun pins s σ H Q I h => ?_⟩
  refine Subscript_ (thn (he.run pins s σ H _ I h) fun v s1 ⟨x, H1, I1, r1, z, ex, hz, q⟩ => ?_)
  subst ex
  obtain ⟨t, rfl⟩ := r1
  have step : PO X (some (.UnaryOp .USub (.Constant (.int 1) k p1) p2)) (tPart (tUn (rU fun i => .int (-i)) (tC (.int 1)))) := po_some (pe_un un_neg pe_int)
  refine wpAny_Slice (thn (po_none.run pins s1 σ H1 (fun o G => o = none ∧ G = H1) I1 ⟨rfl, rfl⟩) fun vl s2 ⟨l, G2, J2, pl, el, e2⟩ => ?_)
  subst el e2
  refine thn (po_none.run pins s2 σ G2 (fun o G => o = none ∧ G = G2) J2 ⟨rfl, rfl⟩) fun vu s3 ⟨u, G3, J3, pu, eu, e3⟩ => ?_
  subst eu e3
  refine thn (step.run pins s3 σ G3 (fun o G => o = some (-1) ∧ G = G3) J3 ⟨1, rfl, -1, rfl, rfl, rfl⟩) fun vs s4 ⟨o, G4, J4, ps, eo, e4⟩ => ?_
  subst eo e4
  have J5 : Inv X pins σ G4 { s4 with heap := s4.heap.push { cls := .type "slice", data := .fields #[vl, vu, vs] } } := J4.kept (t' := s4.toks) fun b ob q => Heap.get?_push_of_some _ q
  obtain ⟨l', rfl, e1⟩ := IsPart.raw pl
  obtain ⟨u', rfl, e2⟩ := IsPart.raw pu
  obtain ⟨c', rfl, e3⟩ := IsPart.raw ps
  cases l' with
  | some _ => cases e1
  | none => cases u' with
    | some _ => cases e2
    | none => cases c' with
      | none => cases e3
      | some c =>
        obtain ⟨c, tc⟩ := c
        cases e3
        show wpAny (model X.prog X.w) X.A (subscriptTail e (.Slice none none (some (.UnaryOp .USub (.Constant (.int 1) k p1) p2)) p3) (.str z t) (.ref s4.heap.objs.size)) (EP X pins σ Q) X.xe { s4 with heap := s4.heap.push { cls := .type "slice", data := .fields #[partValue none, partValue none, partValue (some (-1, tc))] } }
        refine tail_any (ops := [.ref s4.heap.objs.size, .str z t]) (PySem.typeIs_str _ _ _) (PySem.F.slot_str_getitem.lookup) ?_ (by with_unfolding_all rfl)
        refine wpAny_getItem_str_slice (l := none) (u := none) (st := some (-1, tc)) ⟨_, Heap.get?_push_size _ rfl, rfl, rfl⟩ rfl ?_
        show Made.post (if ((-1 : Int) == 1 && _) = true then Made.val (.str z t) else Made.str ⟨((Builtin.Str.strSliceIndices none none (-1) z.length).filterMap (z.cps[·]?)).toArray⟩) _ _
        rw [if_neg (by rw [show ((-1 : Int) == 1) = false from rfl, Bool.false_and]; exact Bool.false_ne_true), rev_signs]
        refine ⟨?_, .str _, G4, J5.tok _, ⟨_, rfl⟩, q⟩
        show (z.cps.toList.reverse.toArray).size ≤ sizeLine
        rw [List.size_toArray, List.length_reverse]; exact hz
end KX

namespace KX
open PySem PySem.Spec PyProof.Rows L2
/-! ### versions and windows as data -/
def verD : PyData → Bool
  | .int i => decide (0 ≤ i)
  | _ => false
def winP : PyData → Option (Int × Option Int)
  | .tuple [.int l, .none] => if 0 ≤ l then some (l, none) else none
  | .tuple [.int l, .int h] => if 0 ≤ l ∧ 0 ≤ h ∧ l ≤ h then some (l, some h) else none
  | _ => none
def winB (d : PyData) : Bool := (winP d).isSome
def isN : PyData → Bool
  | .none => true
  | _ => false
def leD : PyData → PyData → Bool
  | .int i, .int k => decide (i ≤ k)
  | _, _ => false
theorem winB_two (a b : PyData) : winB (.tuple [a, b]) = (verD a && (isN b || (verD b && leD a b))) := by
  unfold winB winP verD isN leD
  cases a <;> cases b <;> simp
  all_goals (split <;> simp_all <;> omega)
theorem winB_len {ds : List PyData} (h : ds.length ≠ 2) : winB (.tuple ds) = false := by
  match ds, h with
  | [], _ => rfl
  | [_], _ => cases ‹PyData› <;> rfl
  | [_, _], h => exact absurd rfl h
  | a :: b :: c :: r, _ =>
    unfold winB
    cases a <;> cases b <;> rfl
theorem da_non {b : Bool} {K : PySem.W.Frag} {H : Hp} {v : V} {d : PyData} (h : DaF b K H v d) : decide (v = .non) = isN d := by cases h <;> rfl
theorem verD_int {b : Bool} {K : PySem.W.Frag} {H : Hp} {v : V} {d : PyData} (h : DaF b K H v d) (k : verD d = true) : ∃ i, v = .int i ∧ d = .int i ∧ 0 ≤ i := by
  cases h <;> first | cases k | exact ⟨_, rfl, rfl, of_decide_eq_true k⟩
theorem da_two {b : Bool} {K : PySem.W.Frag} {H : Hp} {xs : List V} {ds : List PyData} (h : DaAllF b K H xs ds) (l : ds.length = 2) : ∃ x1 x2 d1 d2, xs = [x1, x2] ∧ ds = [d1, d2] ∧ DaF b K H x1 d1 ∧ DaF b K H x2 d2 := by
  cases h with
  | nil => cases l
  | cons h1 h => cases h with
    | nil => cases l
    | cons h2 h => cases h with
      | nil => exact ⟨_, _, _, _, rfl, rfl, h1, h2⟩
      | cons _ _ => simp at l
/-- a window as data -/
def hiD : Option Int → PyData
  | none => .none
  | some h => .int h
def hiV : Option Int → V
  | none => .non
  | some h => .int h
def winD (w : Int × Option Int) : PyData := .tuple [.int w.1, hiD w.2]
def okW (w : Int × Option Int) : Prop := 0 ≤ w.1 ∧ ∀ h, w.2 = some h → w.1 ≤ h
theorem winP_D {w : Int × Option Int} (h : okW w) : winP (winD w) = some w := by
  obtain ⟨l, hi⟩ := w
  obtain ⟨h1, h2⟩ := h
  cases hi with
  | none => show (if 0 ≤ l then _ else _) = _; rw [if_pos h1]
  | some k =>
    have := h2 k rfl
    show (if 0 ≤ l ∧ 0 ≤ k ∧ l ≤ k then _ else _) = _
    rw [if_pos ⟨h1, by omega, this⟩]
theorem winP_some {d : PyData} {w : Int × Option Int} (h : winP d = some w) : d = winD w ∧ okW w := by
  unfold winP at h
  split at h
  · split at h
    · cases h; exact ⟨rfl, by assumption, fun k e => nomatch e⟩
    · cases h
  · split at h
    · next c => cases h; exact ⟨rfl, c.1, fun k e => by cases e; exact c.2.2⟩
    · cases h
  · cases h
theorem da_hi {b : Bool} {K : PySem.W.Frag} {H : Hp} : ∀ {o : Option Int} {v : V}, DaF b K H v (hiD o) → v = hiV o
  | none, _, h => by cases h; rfl
  | some _, _, h => by cases h; rfl
/-- a window among the values -/
theorem da_win {b : Bool} {K : PySem.W.Frag} {H : Hp} {w : Int × Option Int} {v : V} (h : DaF b K H v (winD w)) : ∃ a, v = .ref a ∧ SqT K H a [.int w.1, hiV w.2] := by
  cases h with
  | tup hq ha =>
    cases ha with
    | cons h1 r => cases r with
      | cons h2 r =>
        cases r
        cases h1
        have e := da_hi h2
        subst e
        exact ⟨_, rfl, hq⟩
theorem da_hiV {K : PySem.W.Frag} {H : Hp} : ∀ o : Option Int, DaS K H (hiV o) (hiD o)
  | none => DaF.non
  | some h => DaF.int h
theorem da_winT {K : PySem.W.Frag} {H : Hp} {a : Addr} {w : Int × Option Int} (h : SqT K H a [.int w.1, hiV w.2]) : DaS K H (.ref a) (winD w) := DaF.tup h (.cons (DaF.int _) (.cons (da_hiV _) .nil))
def sp_dat (K : PySem.W.Frag) (f : PyData → Bool) : Sp := fun vs H Q _ => ∃ v d, vs = [v] ∧ Da K H v d ∧ ∀ H', Same H H' → Q (.bl (f d)) H'
def sp_req (K : PySem.W.Frag) (f : PyData → Bool) (C : Addr) (n : Str) : Sp := fun vs H Q E => ∃ v d, vs = [v] ∧ Da K H v d ∧ (f d = true → ∀ H', Same H H' → Q .non H') ∧
  (f d = false → ∀ c H', H c = none → Same H H' → H' c = some (.xd [(n, v)]) → E (.ref C) (some c) H')
/-! ### numbers in texts -/
def dg : List Nat := (Str.ofString "0123456789").cps.toList
theorem dg_iff (c : Nat) : c ∈ dg ↔ 48 ≤ c ∧ c ≤ 57 := by
  have e : dg = [48, 49, 50, 51, 52, 53, 54, 55, 56, 57] := by decide +kernel
  rw [e]
  simp only [List.mem_cons, List.not_mem_nil, or_false]
  omega
def digs (x : Str) : Bool := x.cps.toList.all fun c => decide (c ∈ dg)
theorem digs_iff {x : Str} : digs x = true ↔ PySem.NumText.AllDigits x.cps.toList := by
  unfold digs
  rw [List.all_eq_true]
  exact ⟨fun h c hc => (dg_iff c).mp (of_decide_eq_true (h c hc)), fun h c hc => decide_eq_true ((dg_iff c).mpr (h c hc))⟩
def valS (x : Str) : Int := ((PySem.NumText.digitsVal x.cps.toList : Nat) : Int)
/-- decimal without leading zeros -/
def canS (x : Str) : Bool := !(decide (x.cps.toList.head? = some 48) && !decide (x = Str.ofString "0"))
/-- the program's reading: at most sixty digits -/
def pnum (x : Str) : Option Int := if (decide (1 ≤ x.length) && decide (x.length ≤ 60) && digs x) = true then (if canS x = true then some (valS x) else none) else none
theorem intS {x : Str} (h : digs x = true) (h1 : 1 ≤ x.length) (h2 : x.length ≤ 4300) : PySem.intText? x = some (valS x) :=
  PySem.intText_digits (digs_iff.mp h) (fun e => by
    have : x.length = x.cps.toList.length := rfl
    rw [this, e] at h1; simp at h1) h2
def oV : Option Int → V
  | none => .non
  | some i => .int i
theorem str1_eq (c : Nat) : decide (V.str ⟨#[c]⟩ = V.str (Str.ofString "0")) = decide (some c = some 48) := by
  have e : Str.ofString "0" = ⟨#[48]⟩ := by decide +kernel
  rw [e]
  by_cases h : c = 48
  · subst h; rfl
  · rw [decide_eq_false (by simpa using h), decide_eq_false (by simpa using h)]
theorem strV_eq (x y : Str) : decide (V.str x = V.str y) = decide (x = y) := by
  by_cases h : x = y
  · subst h; rw [decide_eq_true rfl, decide_eq_true rfl]
  · rw [decide_eq_false (by simpa using h), decide_eq_false h]
theorem valS_nonneg (x : Str) : 0 ≤ valS x := Int.natCast_nonneg _
/-- the program's reading of a window's text -/
def winAB (b : Str) : Option Int → Option Int → Option (Int × Option Int)
  | some l, some h => if l ≤ h then some (l, some h) else none
  | some l, none => if b = Str.ofString "" then some (l, none) else none
  | none, _ => none
def winS (x : Str) : Option (Int × Option Int) := match Txt.split x (Str.ofString "..") with
  | [a, b] => winAB b (pnum a) (pnum b)
  | _ => none
theorem winS_two {x a b : Str} (h : Txt.split x (Str.ofString "..") = [a, b]) : winS x = winAB b (pnum a) (pnum b) := by unfold winS; rw [h]
theorem winS_not {x : Str} (h : (Txt.split x (Str.ofString "..")).length ≠ 2) : winS x = none := by
  unfold winS
  split
  · next a b e => rw [e] at h; exact absurd rfl h
  · rfl
theorem pnum_nonneg {x : Str} {i : Int} (h : pnum x = some i) : 0 ≤ i := by
  unfold pnum at h
  split at h
  · split at h
    · cases h; exact valS_nonneg x
    · cases h
  · cases h
theorem da_oV {b : Bool} {K : PySem.W.Frag} {H : Hp} : ∀ o : Option Int, DaF b K H (oV o) (hiD o)
  | none => DaF.non
  | some _ => DaF.int _
theorem winS_ok {x : Str} {w : Int × Option Int} (h : winS x = some w) : okW w := by
  unfold winS at h
  split at h
  · next a b _ =>
    cases hl : pnum a with
    | none => rw [hl] at h; cases h
    | some l =>
      cases hk : pnum b with
      | none =>
        rw [hl, hk] at h
        unfold winAB at h
        dsimp only at h
        split at h
        · cases h; exact ⟨pnum_nonneg hl, fun k e => nomatch e⟩
        · cases h
      | some k =>
        rw [hl, hk] at h
        unfold winAB at h
        dsimp only at h
        split at h
        · cases h; exact ⟨pnum_nonneg hl, fun k e => by cases e; assumption⟩
        · cases h
  · cases h
/-- what is written of a window -/
def fmtS (w : Int × Option Int) : Str := match w.2 with
  | none => Str.empty ++ (toString w.1 : String) ++ ".."
  | some h => Str.empty ++ (toString w.1 : String) ++ ".." ++ (toString h : String)
def shortW (w : Int × Option Int) : Prop := w.1.natAbs < 2 ^ 200 ∧ ∀ h, w.2 = some h → h.natAbs < 2 ^ 200
theorem txt_le {i : Int} (h : i.natAbs < 2 ^ 200) : (Str.ofString (toString i)).length ≤ 1921 := int_text_len_1921 (log2_lt_1920 (k := 200) h (by decide) (by decide))
theorem log_of {i : Int} (h : i.natAbs < 2 ^ 200) : i.natAbs.log2 < 1920 := log2_lt_1920 (k := 200) h (by decide) (by decide)
end KX

namespace KX
open PySem PySem.Spec PyProof.Rows L2
/-! ### texts cut at two dots -/
abbrev DD : List Nat := [46, 46]
theorem tl_dd : TL.tl (Str.ofString "..") = DD := by decide +kernel
theorem spl_mem {S : List Nat} : ∀ {L : List Nat} {k : Nat} {acc p : List Nat}, p ∈ TL.spl S k acc L → p.length ≤ acc.length + L.length ∧ ∀ c ∈ p, c ∈ acc ∨ c ∈ L
  | [], k, acc, p, h => by
    rw [TL.spl_nil] at h
    rw [List.mem_singleton.mp h]
    exact ⟨by simp, fun c hc => .inl hc⟩
  | c :: r, k + 1, acc, p, h => by
    have ih := spl_mem (L := r) (k := k) (acc := acc) (p := p) h
    exact ⟨by have := ih.1; simp; omega, fun d hd => (ih.2 d hd).imp id (List.mem_cons_of_mem _)⟩
  | c :: r, 0, acc, p, h => by
    by_cases hp : TL.pre S (c :: r) = true
    · rw [TL.spl_hit hp] at h
      rcases List.mem_cons.mp h with e | h
      · rw [e]; exact ⟨by omega, fun d hd => .inl hd⟩
      · have ih := spl_mem h
        exact ⟨by have := ih.1; simp at this ⊢; omega, fun d hd => .inr ((ih.2 d hd).elim (fun z => by simp at z) (List.mem_cons_of_mem _))⟩
    · have hp' : TL.pre S (c :: r) = false := by simpa using hp
      rw [TL.spl_miss hp'] at h
      have ih := spl_mem h
      refine ⟨by have := ih.1; simp at this ⊢; omega, fun d hd => ?_⟩
      rcases ih.2 d hd with z | z
      · rcases List.mem_append.mp z with z | z
        · exact .inl z
        · exact .inr (by rw [List.mem_singleton.mp z]; exact List.mem_cons_self)
      · exact .inr (List.mem_cons_of_mem _ z)
theorem tl_split (x : Str) : (Txt.split x (Str.ofString "..")).map TL.tl = TL.spl DD 0 [] (TL.tl x) := by
  have h := TL.split_spl x (Str.ofString "..") (by rw [tl_dd]; simp) (TL.kind_ok (by decide +kernel))
  rw [tl_dd] at h
  exact h
theorem splits_ok {x : Str} {n : Nat} (h : okS x n) : ∀ z ∈ Txt.split x (Str.ofString ".."), okS z n := fun z hz => by
  have hm : TL.tl z ∈ TL.spl DD 0 [] (TL.tl x) := by rw [← tl_split]; exact List.mem_map_of_mem hz
  have k := spl_mem hm
  refine ⟨?_, fun c hc => ?_⟩
  · have e1 : z.length = (TL.tl z).length := rfl
    have e2 : x.length = (TL.tl x).length := rfl
    have := k.1; have := h.1
    simp at *; omega
  · rcases k.2 c hc with z | z
    · simp at z
    · exact h.2 c z
/-- the first cut -/
theorem par_spl {L acc : List Nat} : (∃ a r, TL.par DD acc L = some (acc ++ a, r) ∧ L = a ++ DD ++ r ∧ TL.spl DD 0 acc L = (acc ++ a) :: TL.spl DD 0 [] r ∧ ∀ i, i < a.length → TL.pre DD (L.drop i) = false) ∨
    (TL.par DD acc L = none ∧ TL.spl DD 0 acc L = [acc ++ L] ∧ ∀ i, TL.pre DD (L.drop i) = false) := by
  induction L generalizing acc with
  | nil => exact .inr ⟨rfl, by rw [TL.spl_nil, List.append_nil], fun i => by rw [List.drop_nil]; rfl⟩
  | cons c r ih =>
    by_cases hp : TL.pre DD (c :: r) = true
    · refine .inl ⟨[], (c :: r).drop 2, ?_, ?_, ?_, fun i hi => absurd hi (Nat.not_lt_zero _)⟩
      · rw [TL.par_hit hp, List.append_nil]; rfl
      · have e : (c :: r).take 2 = DD := eq_of_beq hp
        rw [List.nil_append, ← e, List.take_append_drop]
      · rw [TL.spl_hit hp, TL.spl_pass, List.append_nil]; rfl
    · have hp' : TL.pre DD (c :: r) = false := by simpa using hp
      rcases ih (acc := acc ++ [c]) with ⟨a, b, h1, h2, h3, h4⟩ | ⟨h1, h2, h3⟩
      · refine .inl ⟨c :: a, b, ?_, ?_, ?_, fun i hi => ?_⟩
        · rw [TL.par_miss hp', h1]; simp
        · rw [h2]; simp
        · rw [TL.spl_miss hp', h3]; simp
        · cases i with
          | zero => exact hp'
          | succ i => exact h4 i (by simpa using hi)
      · refine .inr ⟨?_, ?_, fun i => ?_⟩
        · rw [TL.par_miss hp', h1]
        · rw [TL.spl_miss hp', h2]; simp
        · cases i with
          | zero => exact hp'
          | succ i => exact h3 i
/-- find -/
theorem find_dd (x : Str) : (∃ a r, TL.par DD [] (TL.tl x) = some (a, r) ∧ TL.tl x = a ++ DD ++ r ∧ Txt.find x (Str.ofString "..") = (a.length : Int)) ∨
    (TL.par DD [] (TL.tl x) = none ∧ Txt.find x (Str.ofString "..") = -1) := by
  have hy : TL.tl (Str.ofString "..") ≠ [] := by rw [tl_dd]; simp
  have at_ := fun i => TL.at_iff (x := x) hy i
  rw [tl_dd] at at_
  have hd := PySem.StrLaws.occ_head x (Str.ofString "..") 1 (Nat.le_refl _)
  rcases par_spl (L := TL.tl x) (acc := []) with ⟨a, r, h1, h2, _, h4⟩ | ⟨h1, _, h3⟩
  · have here : TL.pre DD ((TL.tl x).drop a.length) = true := by
      have e : (TL.tl x).drop a.length = DD ++ r := by rw [h2, List.append_assoc]; exact List.drop_left
      rw [e]; exact TL.pre_self _ _
    refine .inl ⟨a, r, h1, h2, ?_⟩
    rcases hd with ⟨_, hn⟩ | ⟨i, s, e, hi, hk⟩
    · exact absurd ((at_ _).mpr here) (hn _)
    · have ei : i = a.length := by
        rcases Nat.lt_trichotomy i a.length with z | z | z
        · have := (at_ _).mp hi
          rw [h4 i z] at this
          cases this
        · exact z
        · exact absurd ((at_ _).mpr here) (hk _ z)
      unfold Txt.find
      rw [e, ei]
  · refine .inr ⟨h1, ?_⟩
    rcases hd with ⟨e, _⟩ | ⟨i, s, e, hi, hk⟩
    · unfold Txt.find; rw [e]
    · have := (at_ _).mp hi
      rw [h3 i] at this
      cases this
/-! ### the law's reading -/
def dgN (c : Nat) : Prop := 48 ≤ c ∧ c ≤ 57
instance (c : Nat) : Decidable (dgN c) := inferInstanceAs (Decidable (_ ∧ _))
abbrev dgs (l : List Nat) : Prop := PySem.NumText.AllDigits l
/-- decimal, without leading zeros -/
def canL (w : List Nat) : Prop := w ≠ [] ∧ dgs w ∧ (w.head? = some 48 → w = [48])
instance (w : List Nat) : Decidable (dgs w) := inferInstanceAs (Decidable (∀ c ∈ w, 48 ≤ c ∧ c ≤ 57))
instance (w : List Nat) : Decidable (canL w) := inferInstanceAs (Decidable (_ ∧ _ ∧ _))
def lnum (w : List Nat) : Option Int := if canL w then some ((PySem.NumText.digitsVal w : Nat) : Int) else none
def lAB (r : List Nat) (l : Option Int) : Option (Int × Option Int) := match l with
  | none => none
  | some l => if r = [] then some (l, none) else match lnum r with
    | none => none
    | some h => if h < l then none else some (l, some h)
def lread (x : Str) : Option (Int × Option Int) := match TL.par DD [] (TL.tl x) with
  | none => none
  | some (a, r) => lAB r (lnum a)
theorem pnum_l (x : Str) : pnum x = if x.length ≤ 60 then lnum (TL.tl x) else none := by
  have e1 : x.length = (TL.tl x).length := rfl
  have e2 : x = Str.ofString "0" ↔ TL.tl x = [48] := by
    have e : TL.tl (Str.ofString "0") = [48] := by decide +kernel
    rw [← e]
    exact ⟨fun z => by rw [z], fun z => TL.ext_tl z⟩
  have ec : canS x = true ↔ (x.cps.toList.head? = some 48 → TL.tl x = [48]) := by
    unfold canS
    simp only [Bool.not_eq_true', Bool.and_eq_false_iff, decide_eq_false_iff_not, Bool.not_eq_false', decide_eq_true_eq]
    rw [← e2]
    exact ⟨fun h k => h.elim (fun z => absurd k z) id, fun h => by
      by_cases k : x.cps.toList.head? = some 48
      · exact .inr (h k)
      · exact .inl k⟩
  have el : 1 ≤ x.length ↔ TL.tl x ≠ [] := by
    rw [e1]
    exact ⟨fun h z => by rw [z] at h; simp at h, fun h => List.length_pos_iff.mpr h⟩
  unfold pnum lnum
  by_cases h1 : x.length ≤ 60
  · rw [if_pos h1]
    by_cases h2 : TL.tl x ≠ [] ∧ dgs (TL.tl x)
    · have hd : digs x = true := digs_iff.mpr h2.2
      rw [if_pos (by simp [hd, h1, el.mpr h2.1])]
      by_cases h3 : canS x = true
      · rw [if_pos h3, if_pos ⟨h2.1, h2.2, ec.mp h3⟩]; rfl
      · rw [if_neg h3, if_neg (fun z => h3 (ec.mpr z.2.2))]
    · rw [if_neg ?_, if_neg (fun z => h2 ⟨z.1, z.2.1⟩)]
      intro z
      simp only [Bool.and_eq_true, decide_eq_true_eq] at z
      exact h2 ⟨el.mp z.1.1, digs_iff.mp z.2⟩
  · rw [if_neg h1, if_neg (by simp [h1])]
/-- where a text is short enough beside its dots, the two readings are one -/
def goodL (L : List Nat) : Prop := ∀ a r, L = a ++ DD ++ r → (dgs a → a.length ≤ 60) ∧ (dgs r → r.length ≤ 60)
theorem lnum_short {w : List Nat} (h : dgs w → w.length ≤ 60) : (if w.length ≤ 60 then lnum w else none) = lnum w := by
  by_cases k : w.length ≤ 60
  · rw [if_pos k]
  · rw [if_neg k]
    unfold lnum
    rw [if_neg fun z => k (h z.2.1)]
theorem read_eq {x : Str} (g : goodL (TL.tl x)) : winS x = lread x := by
  have hs := tl_split x
  rcases par_spl (L := TL.tl x) (acc := []) with ⟨a, r, h1, h2, h3, _⟩ | ⟨h1, h2, _⟩
  · have hr : lread x = lAB r (lnum a) := by unfold lread; rw [h1]; rfl
    obtain ⟨ga, gr⟩ := g a r h2
    rw [h3, List.nil_append] at hs
    rcases par_spl (L := r) (acc := []) with ⟨b, s, k1, k2, k3, _⟩ | ⟨k1, k2, _⟩
    · -- a further cut: neither reads it
      have e1 : winS x = none := winS_not fun z => by
        have l := congrArg List.length hs
        rw [List.length_map, z, k3] at l
        obtain ⟨p, q, e⟩ : ∃ p q, TL.spl DD 0 [] s = p :: q := by
          rcases par_spl (L := s) (acc := []) with ⟨_, _, _, _, z3, _⟩ | ⟨_, z2, _⟩
          · exact ⟨_, _, z3⟩
          · exact ⟨_, _, z2⟩
        rw [e] at l
        simp at l
      have nr : r ≠ [] := fun z => by rw [z] at k2; simp at k2
      have ln : lnum r = none := if_neg fun z => by
        have := z.2.1 46 (by rw [k2]; simp)
        omega
      rw [e1, hr]
      unfold lAB
      cases lnum a with
      | none => rfl
      | some l => dsimp only; rw [if_neg nr, ln]
    · rw [k2, List.nil_append] at hs
      obtain ⟨ys, hys⟩ : ∃ ys, Txt.split x (Str.ofString "..") = ys := ⟨_, rfl⟩
      rw [hys] at hs
      match ys, hs with
      | [y, z], hs =>
        have ey : TL.tl y = a := by injection hs
        have ez : TL.tl z = r := by injection hs with _ q; injection q
        rw [winS_two hys, hr, pnum_l, pnum_l, ey, ez]
        have l1 : y.length = a.length := by rw [← ey]; rfl
        have l2 : z.length = r.length := by rw [← ez]; rfl
        rw [l1, l2, lnum_short ga, lnum_short gr]
        have e0 : z = Str.ofString "" ↔ r = [] := by
          have e : TL.tl (Str.ofString "") = [] := by decide +kernel
          rw [← ez, ← e]
          exact ⟨fun q => by rw [q], fun q => TL.ext_tl q⟩
        unfold winAB lAB
        cases lnum a with
        | none => rfl
        | some l =>
          dsimp only
          by_cases nr : r = []
          · have ln : lnum r = none := by rw [nr]; exact if_neg fun z => z.1 rfl
            rw [ln, if_pos nr]
            dsimp only
            rw [if_pos (e0.mpr nr)]
          · rw [if_neg nr]
            cases lnum r with
            | none => dsimp only; rw [if_neg fun q => nr (e0.mp q)]
            | some k =>
              dsimp only
              by_cases c : l ≤ k
              · rw [if_pos c, if_neg (by omega)]
              · rw [if_neg c, if_pos (by omega)]
  · have e1 : winS x = none := winS_not fun z => by
      have l := congrArg List.length hs
      rw [List.length_map, z, h2] at l
      simp at l
    rw [e1]
    unfold lread
    rw [h1]
end KX

namespace KX
open PySem PySem.Spec PyProof.Rows L2
/-! ### numbers written -/
theorem val_snoc (a : List Nat) (c : Nat) : PySem.NumText.digitsVal (a ++ [c]) = PySem.NumText.digitsVal a * 10 + (c - 48) := by
  unfold PySem.NumText.digitsVal
  rw [List.foldl_append]; rfl
theorem val_pos : ∀ n (a : List Nat), a.length = n → a ≠ [] → dgs a → a.head? ≠ some 48 → 1 ≤ PySem.NumText.digitsVal a := by
  intro n
  induction n with
  | zero => intro a h n; exact absurd (List.length_eq_zero_iff.mp h) n
  | succ n ih =>
    intro a h hn hd hh
    obtain ⟨b, c, rfl⟩ : ∃ b c, a = b ++ [c] := ⟨a.dropLast, a.getLast hn, (List.dropLast_concat_getLast hn).symm⟩
    rw [val_snoc]
    cases b with
    | nil =>
      have hc := hd c (by simp)
      have : c ≠ 48 := fun z => hh (by rw [z]; rfl)
      omega
    | cons d b =>
      have := ih (d :: b) (by simp at h ⊢; omega) (by simp) (fun c hc => hd c (List.mem_append_left _ hc)) (by simpa using hh)
      omega
/-- a number without leading zeros is written as it stands -/
theorem num_back : ∀ n (a : List Nat), a.length = n → canL a → TL.numL (PySem.NumText.digitsVal a) = a := by
  intro n
  induction n with
  | zero => intro a h k; exact absurd (List.length_eq_zero_iff.mp h) k.1
  | succ n ih =>
    intro a h k
    obtain ⟨hn, hd, hz⟩ := k
    obtain ⟨b, c, rfl⟩ : ∃ b c, a = b ++ [c] := ⟨a.dropLast, a.getLast hn, (List.dropLast_concat_getLast hn).symm⟩
    have hc := hd c (by simp)
    cases b with
    | nil =>
      rw [val_snoc]
      show TL.numL (0 * 10 + (c - 48)) = [c]
      rw [TL.numL_lt (by omega)]
      congr 1; omega
    | cons d b =>
      have nh : (d :: b).head? ≠ some 48 := fun z => by
        have := hz (by simpa using z)
        simp at this
      have hb : dgs (d :: b) := fun c hc => hd c (List.mem_append_left _ hc)
      have p := val_pos _ (d :: b) rfl (by simp) hb nh
      have ih' := ih (d :: b) (by simp at h ⊢; omega) ⟨by simp, hb, fun z => absurd z nh⟩
      rw [val_snoc, TL.numL_step (by omega)]
      have e1 : (PySem.NumText.digitsVal (d :: b) * 10 + (c - 48)) / 10 = PySem.NumText.digitsVal (d :: b) := by omega
      have e2 : 48 + (PySem.NumText.digitsVal (d :: b) * 10 + (c - 48)) % 10 = c := by omega
      rw [e1, e2, ih']
theorem canL_num (n : Nat) : canL (TL.numL n) := by
  refine ⟨TL.numL_ne n, TL.numL_digits n, fun h => ?_⟩
  induction n using Nat.strongRecOn with
  | _ n ih =>
    by_cases k : n < 10
    · rw [TL.numL_lt k] at h ⊢
      simpa using h
    · rw [TL.numL_step (by omega)] at h
      have nn := TL.numL_ne (n / 10)
      have hh : (TL.numL (n / 10)).head? = some 48 := by
        cases e : TL.numL (n / 10) with
        | nil => exact absurd e nn
        | cons a b => rw [e] at h; simpa using h
      have := ih (n / 10) (by omega) hh
      have e0 : n / 10 = 0 := by
        have v := TL.numL_val (n / 10)
        rw [this] at v
        exact v.symm
      omega
theorem lnum_num (n : Nat) : lnum (TL.numL n) = some (n : Int) := by
  unfold lnum
  rw [if_pos (canL_num n), TL.numL_val]
/-! ### a window's text -/
def tailL : Option Int → List Nat
  | none => []
  | some h => TL.numL h.toNat
def fmtL (w : Int × Option Int) : List Nat := TL.numL w.1.toNat ++ DD ++ tailL w.2
theorem tl_int {i : Int} (h : 0 ≤ i) : TL.tl (Str.ofString (toString i)) = TL.numL i.toNat := by
  have e : i = ((i.toNat : Nat) : Int) := by omega
  have := TL.tl_num i.toNat
  rw [← e] at this
  exact this
theorem tl_app (x y : Str) : TL.tl (x ++ y) = TL.tl x ++ TL.tl y := TL.tl_append x y
theorem par_fmt {w : Int × Option Int} : TL.par DD [] (fmtL w) = some (TL.numL w.1.toNat, tailL w.2) := by
  have h := TL.par_part1 (s := 46) (S := [46]) (p := TL.numL w.1.toNat) (rest := tailL w.2) (acc := []) (TL.numL_free (by omega))
  rw [List.nil_append] at h
  rw [← h]
  unfold fmtL
  rw [List.append_assoc]
theorem lnum_tail {h : Int} (h0 : 0 ≤ h) : lnum (TL.numL h.toNat) = some h := by
  rw [lnum_num]
  congr 1; omega
theorem read_fmt {w : Int × Option Int} {x : Str} (ok : okW w) (e : TL.tl x = fmtL w) : lread x = some w := by
  unfold lread
  rw [e, par_fmt]
  obtain ⟨l, hi⟩ := w
  obtain ⟨h1, h2⟩ := ok
  dsimp only
  rw [lnum_tail h1]
  cases hi with
  | none => rfl
  | some k =>
    have hk := h2 k rfl
    unfold lAB tailL
    dsimp only at *
    rw [if_neg (TL.numL_ne _), lnum_tail (by omega)]
    dsimp only
    rw [if_neg (by omega)]
theorem lnum_some {a : List Nat} {l : Int} (h : lnum a = some l) : 0 ≤ l ∧ a = TL.numL l.toNat := by
  unfold lnum at h
  split at h
  · next c =>
    cases h
    exact ⟨Int.natCast_nonneg _, by rw [Int.toNat_natCast, num_back _ a rfl c]⟩
  · cases h
/-- what is read is written again -/
theorem fmt_read {w : Int × Option Int} {x : Str} (h : lread x = some w) : TL.tl x = fmtL w := by
  unfold lread at h
  rcases par_spl (L := TL.tl x) (acc := []) with ⟨a, r, h1, h2, _, _⟩ | ⟨h1, _, _⟩
  · rw [h1] at h
    dsimp only at h
    rw [List.nil_append] at h
    unfold lAB at h
    cases hl : lnum a with
    | none => rw [hl] at h; cases h
    | some l =>
      rw [hl] at h
      dsimp only at h
      have ea := (lnum_some hl).2
      by_cases nr : r = []
      · rw [if_pos nr] at h
        cases h
        rw [h2, nr, ea]; rfl
      · rw [if_neg nr] at h
        cases hk : lnum r with
        | none => rw [hk] at h; cases h
        | some k =>
          rw [hk] at h
          dsimp only at h
          split at h
          · cases h
          · cases h
            rw [h2, ea, (lnum_some hk).2]; rfl
  · rw [h1] at h; cases h
/-! ### runs of digits -/
def Run (n : Nat) (L : List Nat) : Prop := ∀ a u b, L = a ++ u ++ b → dgs u → u.length ≤ n
theorem Run.len {n : Nat} {L : List Nat} (h : L.length ≤ n) : Run n L := fun a u b e _ => by rw [e] at h; simp at h; omega
theorem Run.mono {n m : Nat} {L : List Nat} (h : Run n L) (k : n ≤ m) : Run m L := fun a u b e d => Nat.le_trans (h a u b e d) k
theorem Run.mid {n : Nat} {a L b : List Nat} (h : Run n (a ++ L ++ b)) : Run n L := fun p u q e d => h (a ++ p) u (q ++ b) (by rw [e]; simp) d
theorem Run.app {n : Nat} {A B : List Nat} {c : Nat} (ha : Run n A) (hb : Run n B) (nc : ¬ dgN c) : Run n (A ++ c :: B) := by
  intro p u q e d
  rw [List.append_assoc] at e
  rcases List.append_eq_append_iff.mp e with ⟨x, e1, e2⟩ | ⟨x, e1, e2⟩
  · -- p = A ++ x
    cases x with
    | nil =>
      cases u with
      | nil => exact Nat.zero_le _
      | cons v u =>
        rw [List.nil_append] at e2
        injection e2 with z _
        exact absurd (d v List.mem_cons_self) (by rw [← z]; exact nc)
    | cons y x =>
      injection e2 with _ z
      exact hb x u q (by rw [z]; simp) d
  · -- A = p ++ x, x ++ c :: B = u ++ q
    rcases List.append_eq_append_iff.mp e2 with ⟨y, f1, f2⟩ | ⟨y, f1, f2⟩
    · exact ha p u y (by rw [e1, f1]; simp) d
    · cases y with
      | nil =>
        rw [List.append_nil] at f1
        exact ha p u [] (by rw [e1, f1]; simp) d
      | cons v y =>
        injection f2 with z _
        exact absurd (d c (by rw [f1, z]; simp)) nc
theorem Run.rev {n : Nat} {L : List Nat} (h : Run n L) : Run n L.reverse := fun a u b e d => by
  have := h b.reverse u.reverse a.reverse (by rw [← L.reverse_reverse, e]; simp) (fun c hc => d c (List.mem_reverse.mp hc))
  simpa using this
theorem Run.good {L : List Nat} (h : Run 60 L) : goodL L := fun a r e => ⟨fun d => h [] a (DD ++ r) (by rw [e]; simp) d, fun d => h (a ++ DD) r [] (by rw [e]; simp) d⟩
theorem dots_good {L : List Nat} (h : L.count 46 ≤ 1) : goodL L := fun a r e => by
  rw [e] at h
  simp [List.count_append] at h
  omega
/-! ### changed in one place -/
/-- two signs that are no digits, at most one sign between them, beside them at most n signs -/
def Two (n : Nat) (L : List Nat) : Prop := ∃ A c M e B, L = A ++ c :: (M ++ e :: B) ∧ ¬ dgN c ∧ ¬ dgN e ∧ A.length ≤ n ∧ M.length ≤ 1 ∧ B.length ≤ n
def Low (n : Nat) (L : List Nat) : Prop := L.count 46 ≤ 1 ∧ Run n L
theorem Two.run {n : Nat} {L : List Nat} (h : Two n L) (k : 1 ≤ n) : Run n L := by
  obtain ⟨A, c, M, e, B, rfl, hc, he, a, m, b⟩ := h
  exact .app (.len a) (.app (.len (by omega)) (.len b) he) hc
/-- at place i k signs are taken out, X put in -/
def edit (L : List Nat) (i : Nat) (X : List Nat) (k : Nat) : List Nat := L.take i ++ X ++ L.drop (i + k)
theorem edit_left {U V X : List Nat} {i k : Nat} (h : i + k ≤ U.length) : edit (U ++ V) i X k = edit U i X k ++ V := by
  unfold edit
  rw [List.take_append_of_le_length (by omega), List.drop_append_of_le_length h]
  simp
theorem edit_right {U V X : List Nat} {i k : Nat} (h : U.length ≤ i) : edit (U ++ V) i X k = U ++ edit V (i - U.length) X k := by
  unfold edit
  rw [List.take_append, List.drop_append, List.take_of_length_le h, List.drop_of_length_le (l := U) (by omega), List.nil_append]
  have e : i + k - U.length = i - U.length + k := by omega
  rw [e]
  simp
theorem edit_len {L X : List Nat} {i k n : Nat} (h : L.length ≤ n) (hx : X.length ≤ 1) : (edit L i X k).length ≤ n + 1 := by
  unfold edit
  simp only [List.length_append, List.length_take, List.length_drop]
  omega
/-- from two to one: the runs stay short -/
theorem Two.edit {n : Nat} {L X : List Nat} {i k : Nat} (h : Two n L) (hx : X.length ≤ 1) (hk : k ≤ 1) : Run (n + 3) (KX.edit L i X k) := by
  obtain ⟨A, c, M, e, B, rfl, hc, he, a, m, b⟩ := h
  by_cases hi : i ≤ A.length
  · have eq : A ++ c :: (M ++ e :: B) = (A ++ c :: M) ++ e :: B := by simp
    rw [eq, edit_left (by simp; omega)]
    exact .app (.len (Nat.le_trans (edit_len (n := n + 2) (by simp; omega) hx) (by omega))) (.len (by omega)) he
  · have eq : A ++ c :: (M ++ e :: B) = (A ++ [c]) ++ (M ++ e :: B) := by simp
    rw [eq, edit_right (by simp; omega)]
    have eq2 : A ++ [c] ++ KX.edit (M ++ e :: B) (i - (A ++ [c]).length) X k = A ++ c :: KX.edit (M ++ e :: B) (i - (A ++ [c]).length) X k := by simp
    rw [eq2]
    exact .app (.len (by omega)) (.len (Nat.le_trans (edit_len (n := n + 2) (by simp; omega) hx) (by omega))) hc
theorem count_edit {L : List Nat} {i k : Nat} {X : List Nat} (hX : X.count 46 = 0) : (edit L i X k).count 46 ≤ L.count 46 := by
  unfold edit
  have e : L.count 46 = (L.take i).count 46 + (L.drop i).count 46 := by rw [← List.count_append, List.take_append_drop]
  have f : (L.drop (i + k)).count 46 ≤ (L.drop i).count 46 := by
    rw [← List.drop_drop]
    exact (List.drop_sublist _ _).count_le 46
  rw [List.count_append, List.count_append, hX]
  omega
theorem Low.edit {n : Nat} {L X : List Nat} {i k : Nat} (h : Low n L) (hx : X.length ≤ 1) : goodL (KX.edit L i X k) ∨ Run n (KX.edit L i X k) := by
  obtain ⟨h1, h2⟩ := h
  match X, hx with
  | [], _ => exact .inl (dots_good (Nat.le_trans (count_edit rfl) h1))
  | [s], _ =>
    by_cases hs : dgN s
    · exact .inl (dots_good (Nat.le_trans (count_edit (by
        have : s ≠ 46 := fun z => by rw [z] at hs; revert hs; unfold dgN; omega
        simp [this])) h1))
    · right
      have e : KX.edit L i [s] k = L.take i ++ s :: L.drop (i + k) := by unfold KX.edit; simp
      rw [e]
      refine .app ?_ ?_ hs
      · exact Run.mid (a := []) (b := L.drop i) (by rw [List.nil_append, List.take_append_drop]; exact h2)
      · exact Run.mid (a := L.take (i + k)) (b := []) (by rw [List.append_nil, List.take_append_drop]; exact h2)
/-- the text of a window -/
theorem fmt_two {n : Nat} {A B : List Nat} (a : A.length ≤ n) (b : B.length ≤ n) : Two n (A ++ DD ++ B) := ⟨A, 46, [], 46, B, by simp, by decide, by decide, a, by simp, b⟩
theorem fmt_edit {n : Nat} {A B X : List Nat} {i k : Nat} (a : A.length ≤ n) (b : B.length ≤ n) (da : dgs A) (db : dgs B) (hx : X.length ≤ 1) (hk : k ≤ 1) : Two (n + 1) (edit (A ++ DD ++ B) i X k) ∨ Low (n + 1) (edit (A ++ DD ++ B) i X k) := by
  have ca : A.count 46 = 0 := List.count_eq_zero.mpr fun z => by have := da _ z; omega
  have cb : B.count 46 = 0 := List.count_eq_zero.mpr fun z => by have := db _ z; omega
  have e0 : A ++ DD ++ B = A ++ (46 :: 46 :: B) := by simp
  rw [e0]
  by_cases h1 : i + k ≤ A.length
  · left
    rw [edit_left h1]
    exact ⟨edit A i X k, 46, [], 46, B, by simp, by decide, by decide, edit_len a hx, by simp, by omega⟩
  · by_cases h2 : i ≤ A.length
    · -- i = |A|, k = 1: the first dot goes
      have hi : i = A.length := by omega
      have hk1 : k = 1 := by omega
      subst hi hk1
      rw [edit_right (Nat.le_refl _), Nat.sub_self]
      have e : A ++ edit (46 :: 46 :: B) 0 X 1 = A ++ X ++ 46 :: B := by unfold edit; simp
      rw [e]
      match X, hx with
      | [], _ =>
        refine .inr ⟨by simp [List.count_append, ca, cb], ?_⟩
        rw [List.append_nil]
        exact .app (.len (by omega)) (.len (by omega)) (by decide)
      | [s], _ =>
        by_cases hs : dgN s
        · have : s ≠ 46 := fun z => by rw [z] at hs; revert hs; unfold dgN; omega
          exact .inr ⟨by simp [List.count_append, ca, cb, this], .app (.len (by simp; omega)) (.len (by omega)) (by decide)⟩
        · exact .inl ⟨A, s, [], 46, B, by simp, hs, by decide, by omega, by simp, by omega⟩
    · have h3 : A.length < i := by omega
      by_cases h4 : i ≤ A.length + 1
      · have hi : i = A.length + 1 := by omega
        subst hi
        have e1 : A ++ (46 :: 46 :: B) = (A ++ [46]) ++ (46 :: B) := by simp
        rw [e1, edit_right (by simp)]
        have e2 : A.length + 1 - (A ++ [46]).length = 0 := by simp
        rw [e2]
        by_cases hk0 : k = 0
        · subst hk0
          have e : A ++ [46] ++ edit (46 :: B) 0 X 0 = A ++ 46 :: (X ++ 46 :: B) := by unfold edit; simp
          rw [e]
          exact .inl ⟨A, 46, X, 46, B, rfl, by decide, by decide, by omega, hx, by omega⟩
        · have hk1 : k = 1 := by omega
          subst hk1
          have e : A ++ [46] ++ edit (46 :: B) 0 X 1 = A ++ 46 :: (X ++ B) := by unfold edit; simp
          rw [e]
          match X, hx with
          | [], _ => exact .inr ⟨by simp [List.count_append, ca, cb], .app (.len (by omega)) (.len (by simp; omega)) (by decide)⟩
          | [s], _ =>
            by_cases hs : dgN s
            · have : s ≠ 46 := fun z => by rw [z] at hs; revert hs; unfold dgN; omega
              exact .inr ⟨by simp [List.count_append, ca, cb, this], .app (.len (by omega)) (.len (by simp; omega)) (by decide)⟩
            · exact .inl ⟨A, 46, [], s, B, by simp, by decide, hs, by omega, by simp, by omega⟩
      · have e1 : A ++ (46 :: 46 :: B) = (A ++ DD) ++ B := by simp
        rw [e1, edit_right (by simp; omega)]
        exact .inl ⟨A, 46, [], 46, edit B (i - (A ++ DD).length) X k, by simp, by decide, by decide, by omega, by simp, edit_len b hx⟩
/-- what the law's change may make -/
inductive Chg (L : List Nat) : List Nat → Prop
  | ed (i : Nat) (X : List Nat) (k : Nat) : X.length ≤ 1 → k ≤ 1 → Chg L (edit L i X k)
  | rev : Chg L L.reverse
  | turn : Chg L (TL.joinL DD (TL.spl DD 0 [] L).reverse)
theorem joinL_run {n : Nat} : ∀ ps : List (List Nat), (∀ p ∈ ps, Run n p) → Run n (TL.joinL DD ps)
  | [], _ => .len (by simp [TL.joinL])
  | [p], h => h p (by simp)
  | p :: q :: r, h => by
    have ih := joinL_run (q :: r) fun x hx => h x (List.mem_cons_of_mem _ hx)
    show Run n (p ++ 46 :: ([] ++ 46 :: TL.joinL DD (q :: r)))
    exact .app (h p (by simp)) (.app (.len (by simp)) ih (by decide)) (by decide)
theorem spl_run' {n : Nat} : ∀ m (L : List Nat), L.length ≤ m → Run n L → ∀ p ∈ TL.spl DD 0 [] L, Run n p
  | m, L, hm, h, p, hp => by
    rcases par_spl (L := L) (acc := []) with ⟨a, r, _, e, s, _⟩ | ⟨_, s, _⟩
    · rw [s] at hp
      rcases List.mem_cons.mp hp with z | z
      · rw [z, List.nil_append]
        exact Run.mid (a := []) (b := DD ++ r) (by rw [List.nil_append, ← List.append_assoc, ← e]; exact h)
      · match m, hm with
        | 0, hm => rw [e] at hm; simp at hm
        | m + 1, hm => exact spl_run' m r (by rw [e] at hm; simp at hm; omega) (Run.mid (a := a ++ DD) (b := []) (by rw [List.append_nil, ← e]; exact h)) p z
    · rw [s] at hp
      rw [List.mem_singleton.mp hp, List.nil_append]
      exact h
def St0 (L : List Nat) : Prop := ∃ A B, L = A ++ DD ++ B ∧ A.length ≤ 56 ∧ B.length ≤ 56 ∧ dgs A ∧ dgs B
def St1 (L : List Nat) : Prop := Two 57 L ∨ Low 57 L
theorem St0.good {L : List Nat} (h : St0 L) : goodL L := by
  obtain ⟨A, B, rfl, a, b, _, _⟩ := h
  exact ((fmt_two a b).run (by decide)).mono (by decide) |>.good
theorem St1.good {L : List Nat} (h : St1 L) : goodL L := h.elim (fun z => ((z.run (by decide)).mono (by decide)).good) fun z => dots_good z.1
theorem St0.step {L L' : List Nat} (h : St0 L) (c : Chg L L') : St1 L' := by
  obtain ⟨A, B, rfl, a, b, da, db⟩ := h
  cases c with
  | ed i X k hx hk => exact fmt_edit a b da db hx hk
  | rev => exact .inl ⟨B.reverse, 46, [], 46, A.reverse, by simp, by decide, by decide, by simp; omega, by simp, by simp; omega⟩
  | turn =>
    have ha : 46 ∉ A := fun z => by have := da _ z; omega
    have hb : 46 ∉ B := fun z => by have := db _ z; omega
    have e : TL.spl DD 0 [] (A ++ DD ++ B) = [A, B] := by
      have h1 := TL.spl_part1 (s := 46) (S := [46]) (p := A) (rest := B) (acc := []) ha
      have h2 := TL.spl_last1 (s := 46) (S := [46]) (p := B) (acc := []) hb
      rw [h2] at h1
      rw [List.append_assoc]
      exact h1
    rw [e]
    show St1 (B ++ (DD ++ A))
    exact .inl ⟨B, 46, [], 46, A, rfl, by decide, by decide, by omega, by simp, by omega⟩
theorem St1.step {L L' : List Nat} (h : St1 L) (c : Chg L L') : goodL L' := by
  rcases h with h | h
  · cases c with
    | ed i X k hx hk => exact (h.edit hx hk).good
    | rev => exact ((h.run (by decide)).rev.mono (by decide)).good
    | turn =>
      have r := h.run (by decide)
      exact ((joinL_run _ fun p hp => spl_run' _ L (Nat.le_refl _) r p (List.mem_reverse.mp hp)).mono (by decide)).good
  · cases c with
    | ed i X k hx hk => exact (h.edit hx).elim id fun z => (z.mono (by decide)).good
    | rev => exact dots_good (by rw [List.count_reverse]; exact h.1)
    | turn =>
      have e : TL.spl DD 0 [] L = [L] := by
        rcases par_spl (L := L) (acc := []) with ⟨a, r, _, e, _, _⟩ | ⟨_, s, _⟩
        · have := h.1
          rw [e] at this
          simp [List.count_append] at this
          omega
        · rw [s, List.nil_append]
      rw [e]
      exact dots_good h.1
/-! ### slices by places -/
theorem tl_cut_to {z : Str} {i : Int} (h : 0 ≤ i) : TL.tl (cutS z none (some i)) = (TL.tl z).take i.toNat := by
  have e : TL.tl (cutS z none (some i)) = ((TL.tl z).drop (HT.sIx z.length 0 none)).take (HT.sIx z.length z.length (some i) - HT.sIx z.length 0 none) := rfl
  rw [e]
  have l : z.length = (TL.tl z).length := rfl
  unfold HT.sIx
  dsimp only
  rw [List.drop_zero, Nat.sub_zero, if_neg (by omega)]
  by_cases k : i.toNat ≤ z.length
  · congr 1; omega
  · rw [List.take_of_length_le (by omega), List.take_of_length_le (by omega)]
theorem tl_cut_from {z : Str} {i : Int} (h : 0 ≤ i) : TL.tl (cutS z (some i) none) = (TL.tl z).drop i.toNat := by
  have e : TL.tl (cutS z (some i) none) = ((TL.tl z).drop (HT.sIx z.length 0 (some i))).take (HT.sIx z.length z.length none - HT.sIx z.length 0 (some i)) := rfl
  rw [e]
  have l : z.length = (TL.tl z).length := rfl
  unfold HT.sIx
  dsimp only
  rw [if_neg (by omega)]
  by_cases k : i.toNat ≤ z.length
  · rw [List.take_of_length_le (by rw [List.length_drop]; omega)]
    congr 1; omega
  · rw [List.drop_of_length_le (by omega), List.drop_of_length_le (by omega)]; simp
theorem fmtW_tl {w : Int × Option Int} (ok : okW w) : TL.tl (fmtS w) = fmtL w := by
  obtain ⟨l, hi⟩ := w
  obtain ⟨h1, h2⟩ := ok
  have h1 : 0 ≤ l := h1
  unfold fmtS fmtL
  cases hi with
  | none =>
    show TL.tl (Str.empty ++ Str.ofString (toString l) ++ Str.ofString "..") = _
    rw [tl_app, tl_app, tl_dd, tl_int h1]
    show [] ++ _ ++ _ = _
    simp [tailL]
  | some k =>
    have hk : l ≤ k := h2 k rfl
    show TL.tl (Str.empty ++ Str.ofString (toString l) ++ Str.ofString ".." ++ Str.ofString (toString k)) = _
    rw [tl_app, tl_app, tl_app, tl_dd, tl_int h1, tl_int (by omega)]
    show [] ++ _ ++ _ ++ _ = _
    simp [tailL]
theorem joinL_len : ∀ ps : List (List Nat), (TL.joinL DD ps).length = (ps.map (·.length)).sum + 2 * (ps.length - 1)
  | [] => rfl
  | [p] => by simp [TL.joinL]
  | p :: q :: r => by
    have ih := joinL_len (q :: r)
    show (p ++ (DD ++ TL.joinL DD (q :: r))).length = _
    rw [List.length_append, List.length_append, ih]
    simp only [List.map_cons, List.sum_cons, List.length_cons, List.length_nil]
    omega
theorem spl_sum : ∀ m (L : List Nat), L.length ≤ m → ((TL.spl DD 0 [] L).map (·.length)).sum + 2 * ((TL.spl DD 0 [] L).length - 1) = L.length ∧ 1 ≤ (TL.spl DD 0 [] L).length
  | m, L, hm => by
    rcases par_spl (L := L) (acc := []) with ⟨a, r, _, e, s, _⟩ | ⟨_, s, _⟩
    · match m, hm with
      | 0, hm => rw [e] at hm; simp at hm
      | m + 1, hm =>
        have ih := spl_sum m r (by rw [e] at hm; simp at hm; omega)
        have ei : L.length = a.length + 2 + r.length := by rw [e]; simp; omega
        rw [s]
        simp only [List.nil_append, List.map_cons, List.sum_cons, List.length_cons]
        omega
    · rw [s]; simp
theorem turn_len (L : List Nat) : (TL.joinL DD (TL.spl DD 0 [] L).reverse).length = L.length := by
  rw [joinL_len, List.map_reverse, List.length_reverse]
  have e : (((TL.spl DD 0 [] L).map (·.length)).reverse).sum = ((TL.spl DD 0 [] L).map (·.length)).sum := List.sum_reverse _
  rw [e]
  exact (spl_sum _ L (Nat.le_refl _)).1
end KX

namespace KX
open PySem PySem.Spec PyProof.Rows L2
/-! ### a zip whose pair is held by another -/
/-- a zip over the iterators in TI; f0, f1: what it knows of the pair it has handed out -/
abbrev ZipO (h : Heap) (z TI TO : Addr) (f0 : Value) (f1 : Bool) : Prop :=
  h.get? z = some { cls := .type "zip", dict := none, data := .fields #[f0, .bool f1, .bool false, .ref TI, .ref TO], slots := #[] }
section
variable {prog : Program} {w : World} {A : Around} {E : Value → Shared → Prop} {s : Shared}
theorem alive_any {a : Addr} {Q : Option Obj → Shared → Prop} (h : Q (s.heap.get? a) s) : wpAny (model prog w) A (loadIfAlive a) Q E s := fun _ _ _ => h
/-- its own pair is free -/
theorem free_none {z TI TO : Addr} {f1 : Bool} (hz : ZipO s.heap z TI TO .none f1) {Q : Bool → Shared → Prop} (h : Q true s) : wpAny (model prog w) A (Builtin.SmallTypes.ownedTupleIsFree (.ref z)) Q E s := by
  unfold Builtin.SmallTypes.ownedTupleIsFree
  exact wpAny_bind (wpAny_field hz rfl (x := .none) rfl (wpAny_pure h))
theorem free_gone {z TI TO T : Addr} {f1 : Bool} (hz : ZipO s.heap z TI TO (rawInt T) f1) (hT : s.heap.get? T = none) {Q : Bool → Shared → Prop} (h : Q true s) : wpAny (model prog w) A (Builtin.SmallTypes.ownedTupleIsFree (.ref z)) Q E s := by
  unfold Builtin.SmallTypes.ownedTupleIsFree
  refine wpAny_bind (wpAny_field hz rfl (x := rawInt T) rfl ?_)
  show wpAny _ _ (loadIfAlive ((T : Int).toNat) >>= _) _ _ _
  rw [Int.toNat_natCast]
  refine wpAny_bind (alive_any ?_)
  rw [hT]
  exact wpAny_pure h
/-- the next pair, made anew from its own -/
theorem zipnext_free {z TI TO i1 i2 l1 l2 : Addr} {f0 : Value} {f1 : Bool} {k1 k2 : Nat} {xs ys : Array Value} {x y a b : Value} {Q : Value → Shared → Prop} (D : ZipApart z TI TO i1 i2 l1 l2)
    (hfree : ∀ {Q : Bool → Shared → Prop}, Q true s → wpAny (model prog w) A (Builtin.SmallTypes.ownedTupleIsFree (.ref z)) Q E s) (hz : ZipO s.heap z TI TO f0 f1) (hTI : IsPair s.heap TI (.ref i1) (.ref i2)) (hTO : IsPair s.heap TO a b)
    (h1 : s.heap.IsListIter i1 l1 k1) (h2 : s.heap.IsListIter i2 l2 k2) (hl1 : s.heap.IsList l1 xs) (hl2 : s.heap.IsList l2 ys) (hx : xs[k1]? = some x) (hy : ys[k2]? = some y)
    (hQ : ∀ h', ZipO h' z TI TO (rawInt s.heap.objs.size) false → IsPair h' TO x y → h'.IsListIter i1 l1 (k1 + 1) → h'.IsListIter i2 l2 (k2 + 1) → IsPair h' s.heap.objs.size x y → h'.objs.size = s.heap.objs.size + 1 →
      (∀ c o, c ≠ z → c ≠ TO → c ≠ i1 → c ≠ i2 → s.heap.get? c = some o → h'.get? c = some o) → Q (.ref s.heap.objs.size) { s with heap := h' }) :
    wpAny (model prog w) A (Builtin.«zip.__next__» ⟨[.ref z], []⟩) (fun fin s' => ∃ v, fin = .done (.ret v) ∧ Q v s') E s := by
  show wpAny _ _ (field (.ref z) 2 >>= _) _ _ _
  refine wpAny_bind (wpAny_field hz rfl (x := .bool false) rfl ?_)
  show wpAny _ _ (field (.ref z) 3 >>= _) _ _ _
  refine wpAny_bind (wpAny_field hz rfl (x := .ref TI) rfl ?_)
  refine wpAny_bind (wpAny_seqItems hTI rfl ?_)
  show wpAny _ _ (Builtin.SmallTypes.ownedTupleIsFree (.ref z) >>= _) _ _ _
  refine wpAny_bind (hfree ?_)
  simp only [if_true]
  refine wpAny_bind (wpAny_rule (wpAny_bind (wpAny_field hz rfl (x := .ref TO) rfl (wpAny_bind (wpAny_setField_rec hz (by simp) fun g1 z1 s1 => ?_)))))
  replace z1 : ZipO g1 z TI TO .ellipsis f1 := z1
  refine wpAny_bind ?_
  simp only [List.zipIdx_cons, List.zipIdx_nil, List.forIn_cons, List.forIn_nil]
  refine wpAny_bind (wpAny_bind (wpAny_onRaise ?_))
  show wpAny _ _ (Builtin.SmallTypes.nextOf (.ref i1) >>= _) _ _ _
  refine wpAny_bind (wpAny_nextOf_list_item (h1.extBut s1.extBut D.i1z) (hl1.extBut s1.extBut D.l1z) hx fun g2 a2 s2 => wpAny_pure ?_)
  have p2 : IsPair g2 TO a b := s2.extBut _ _ D.TOi1 (s1.extBut _ _ D.TOz hTO)
  refine wpAny_bind (wpAny_seqItems p2 rfl (wpAny_bind (wpAny_updateSeq_pair p2 fun g3 p3 s3 => ?_)))
  replace p3 : IsPair g3 TO x b := p3
  refine wpAny_bind (wpAny_letGo (wpAny_pure ?_))
  refine wpAny_bind (wpAny_bind (wpAny_onRaise ?_))
  show wpAny _ _ (Builtin.SmallTypes.nextOf (.ref i2) >>= _) _ _ _
  refine wpAny_bind (wpAny_nextOf_list_item (((h2.extBut s1.extBut D.i2z).extBut s2.extBut D.i12.symm).extBut s3.extBut D.TOi2.symm) (((hl2.extBut s1.extBut D.l2z).extBut s2.extBut D.l2i1).extBut s3.extBut D.l2TO) hy fun g4 a4 s4 => wpAny_pure ?_)
  have p4 : IsPair g4 TO x b := s4.extBut _ _ D.TOi2 p3
  refine wpAny_bind (wpAny_seqItems p4 rfl (wpAny_bind (wpAny_updateSeq_pair p4 fun g5 p5 s5 => ?_)))
  replace p5 : IsPair g5 TO x y := p5
  refine wpAny_bind (wpAny_letGo (wpAny_pure (wpAny_pure ?_)))
  refine wpAny_bind (wpAny_seqItems p5 rfl (wpAny_bind (wpAny_newTuple ?_)))
  have sz : g5.objs.size = s.heap.objs.size := by rw [s5.1, s4.1, s3.1, s2.1, s1.1]
  have z5 : ZipO g5 z TI TO .ellipsis f1 := s5.extBut _ _ D.TOz.symm (s4.extBut _ _ D.i2z.symm (s3.extBut _ _ D.TOz.symm (s2.extBut _ _ D.i1z.symm z1)))
  have k5 : ∀ c o, c ≠ z → c ≠ TO → c ≠ i1 → c ≠ i2 → s.heap.get? c = some o → g5.get? c = some o := fun c o c1 c2 c3 c4 e =>
    s5.extBut _ _ c2 (s4.extBut _ _ c4 (s3.extBut _ _ c2 (s2.extBut _ _ c3 (s1.extBut _ _ c1 e))))
  have a5 : g5.IsListIter i1 l1 (k1 + 1) := ((a2.extBut s3.extBut D.TOi1.symm).extBut s4.extBut D.i12).extBut s5.extBut D.TOi1.symm
  have b5 : g5.IsListIter i2 l2 (k2 + 1) := a4.extBut s5.extBut D.TOi2.symm
  have zlt : z < g5.objs.size := Heap.lt_size z5
  show wpAny _ _ (Builtin.SmallTypes.ownedTupleHandOut (.ref z) (.ref g5.objs.size) >>= _) _ _ _
  refine wpAny_bind ?_
  unfold Builtin.SmallTypes.ownedTupleHandOut
  have z6 : ZipO (g5.push { cls := .type "tuple", data := .seq #[x, y] }) z TI TO .ellipsis f1 := Heap.get?_push_of_some _ z5
  refine wpAny_bind (wpAny_setField_rec z6 (by simp) fun g7 z7 s7 => ?_)
  replace z7 : ZipO g7 z TI TO (rawInt g5.objs.size) f1 := z7
  refine wpAny_setField_rec z7 (by simp) fun g8 z8 s8 => ?_
  replace z8 : ZipO g8 z TI TO (rawInt g5.objs.size) false := z8
  have up : ∀ c o, c ≠ z → g5.get? c = some o → g8.get? c = some o := fun c o c1 e => s8.extBut _ _ c1 (s7.extBut _ _ c1 (Heap.get?_push_of_some _ e))
  have T8 : IsPair g8 g5.objs.size x y := s8.extBut _ _ (Nat.ne_of_gt zlt) (s7.extBut _ _ (Nat.ne_of_gt zlt) (Heap.get?_push_size _ rfl))
  have sz8 : g8.objs.size = g5.objs.size + 1 := by rw [s8.1, s7.1, Heap.size_push]
  rw [sz] at z8 T8 sz8
  refine wpAny_pure ⟨_, rfl, ?_⟩
  show Q (.ref g5.objs.size) _
  rw [sz]
  exact hQ g8 z8 (up _ _ D.TOz p5) (a5.at fun o e => up _ o D.i1z e) (b5.at fun o e => up _ o D.i2z e) T8 sz8 fun c o c1 c2 c3 c4 e => up c o c1 (k5 c o c1 c2 c3 c4 e)
theorem zipend_free {z TI TO i1 i2 l1 l2 : Addr} {f0 : Value} {f1 : Bool} {k1 k2 : Nat} {xs ys : Array Value} {a b : Value} {Q : Fin → Shared → Prop} (hh : A.handled = none) (D : ZipApart z TI TO i1 i2 l1 l2)
    (hfree : ∀ {Q : Bool → Shared → Prop}, Q true s → wpAny (model prog w) A (Builtin.SmallTypes.ownedTupleIsFree (.ref z)) Q E s) (hz : ZipO s.heap z TI TO f0 f1) (hTI : IsPair s.heap TI (.ref i1) (.ref i2)) (hTO : IsPair s.heap TO a b)
    (h1 : s.heap.IsListIter i1 l1 k1) (h2 : s.heap.IsListIter i2 l2 k2) (hl1 : s.heap.IsList l1 xs) (hl2 : s.heap.IsList l2 ys) (hend : xs[k1]? = none ∨ ys[k2]? = none)
    (hE : ∀ h' e, (∀ c o, c ≠ z → c ≠ TO → c ≠ i1 → c ≠ i2 → s.heap.get? c = some o → h'.get? c = some o) → (∃ o, h'.get? e = some o ∧ o.cls = .type "StopIteration") → E (.ref e) { s with heap := h' }) :
    wpAny (model prog w) A (Builtin.«zip.__next__» ⟨[.ref z], []⟩) Q E s := by
  show wpAny _ _ (field (.ref z) 2 >>= _) _ _ _
  refine wpAny_bind (wpAny_field hz rfl (x := .bool false) rfl ?_)
  show wpAny _ _ (field (.ref z) 3 >>= _) _ _ _
  refine wpAny_bind (wpAny_field hz rfl (x := .ref TI) rfl ?_)
  refine wpAny_bind (wpAny_seqItems hTI rfl ?_)
  show wpAny _ _ (Builtin.SmallTypes.ownedTupleIsFree (.ref z) >>= _) _ _ _
  refine wpAny_bind (hfree ?_)
  simp only [if_true]
  refine wpAny_bind (wpAny_rule (wpAny_bind (wpAny_field hz rfl (x := .ref TO) rfl (wpAny_bind (wpAny_setField_rec hz (by simp) fun g1 z1 s1 => ?_)))))
  replace z1 : ZipO g1 z TI TO .ellipsis f1 := z1
  refine wpAny_bind ?_
  simp only [List.zipIdx_cons, List.zipIdx_nil, List.forIn_cons, List.forIn_nil]
  refine wpAny_bind (wpAny_bind (wpAny_onRaise ?_))
  show wpAny _ _ (Builtin.SmallTypes.nextOf (.ref i1) >>= _) _ _ _
  cases hx : xs[k1]? with
  | none =>
    refine wpAny_bind (wpAny_nextOf_list_end hh (h1.extBut s1.extBut D.i1z) (hl1.extBut s1.extBut D.l1z) hx fun g2 e s2 he => ?_)
    obtain ⟨oe, hoe, hce⟩ := he
    have z2 : ZipO g2 z TI TO .ellipsis f1 := s2 _ _ D.i1z.symm z1
    have ez : e ≠ z := fun q => by subst q; rw [z2] at hoe; cases hoe; simp at hce
    exact wpAny_setField_rec z2 (by simp) fun g3 _ s3 => hE g3 e (fun c o c1 _ c3 _ q => s3.extBut _ _ c1 (s2 _ _ c3 (s1.extBut _ _ c1 q))) ⟨oe, s3.extBut _ _ ez hoe, hce⟩
  | some x =>
    have hy : ys[k2]? = none := by rcases hend with h | h; rw [hx] at h; cases h; exact h
    refine wpAny_bind (wpAny_nextOf_list_item (h1.extBut s1.extBut D.i1z) (hl1.extBut s1.extBut D.l1z) hx fun g2 a2 s2 => wpAny_pure ?_)
    have p2 : IsPair g2 TO a b := s2.extBut _ _ D.TOi1 (s1.extBut _ _ D.TOz hTO)
    refine wpAny_bind (wpAny_seqItems p2 rfl (wpAny_bind (wpAny_updateSeq_pair p2 fun g3 p3 s3 => ?_)))
    refine wpAny_bind (wpAny_letGo (wpAny_pure ?_))
    refine wpAny_bind (wpAny_bind (wpAny_onRaise ?_))
    show wpAny _ _ (Builtin.SmallTypes.nextOf (.ref i2) >>= _) _ _ _
    refine wpAny_bind (wpAny_nextOf_list_end hh (((h2.extBut s1.extBut D.i2z).extBut s2.extBut D.i12.symm).extBut s3.extBut D.TOi2.symm) (((hl2.extBut s1.extBut D.l2z).extBut s2.extBut D.l2i1).extBut s3.extBut D.l2TO) hy fun g4 e s4 he => ?_)
    obtain ⟨oe, hoe, hce⟩ := he
    have z4 : ZipO g4 z TI TO .ellipsis f1 := s4 _ _ D.i2z.symm (s3.extBut _ _ D.TOz.symm (s2.extBut _ _ D.i1z.symm z1))
    have ez : e ≠ z := fun q => by subst q; rw [z4] at hoe; cases hoe; simp at hce
    exact wpAny_setField_rec z4 (by simp) fun g5 _ s5 => hE g5 e (fun c o c1 c2 c3 c4 q => s5.extBut _ _ c1 (s4 _ _ c4 (s3.extBut _ _ c2 (s2.extBut _ _ c3 (s1.extBut _ _ c1 q))))) ⟨oe, s5.extBut _ _ ez hoe, hce⟩
/-- what it knows: nothing as yet, or a pair handed out before -/
def ZipS (h : Heap) (z TI TO : Addr) : Prop := ∃ f0 f1, ZipO h z TI TO f0 f1 ∧ (f0 = .none ∨ ∃ T : Addr, f0 = rawInt T)
/-- its next pair, whatever it knows -/
theorem zipnext_any {z TI TO i1 i2 l1 l2 : Addr} {k1 k2 : Nat} {xs ys : Array Value} {x y a b : Value} {Q : Value → Shared → Prop} (D : ZipApart z TI TO i1 i2 l1 l2)
    (hz : ZipS s.heap z TI TO) (hTI : IsPair s.heap TI (.ref i1) (.ref i2)) (hTO : IsPair s.heap TO a b)
    (h1 : s.heap.IsListIter i1 l1 k1) (h2 : s.heap.IsListIter i2 l2 k2) (hl1 : s.heap.IsList l1 xs) (hl2 : s.heap.IsList l2 ys) (hx : xs[k1]? = some x) (hy : ys[k2]? = some y)
    (hQ : ∀ h', ZipS h' z TI TO → (∃ x y, IsPair h' TO x y) → h'.IsListIter i1 l1 (k1 + 1) → h'.IsListIter i2 l2 (k2 + 1) → IsPair h' s.heap.objs.size x y → h'.objs.size = s.heap.objs.size + 1 →
      (∀ c o, c ≠ z → c ≠ TO → c ≠ i1 → c ≠ i2 → s.heap.get? c = some o → h'.get? c = some o) → Q (.ref s.heap.objs.size) { s with heap := h' }) :
    wpAny (model prog w) A (Builtin.SmallTypes.nextOf (.ref z)) Q E s := by
  obtain ⟨f0, f1, hz, hf⟩ := hz
  have hTy : s.TypeIs (.ref z) "zip" := ⟨_, hz, rfl⟩
  unfold Builtin.SmallTypes.nextOf
  have fin : ∀ Q' : Value → Shared → Prop, (∀ v s', Q v s' → Q' v s') → wpAny (model prog w) A.in1 (Builtin.«zip.__next__» ⟨[.ref z], []⟩) (fun fin s' => ∃ v, fin = .done (.ret v) ∧ Q' v s') E s := by
    intro Q' hQ'
    rcases hf with rfl | ⟨T, rfl⟩
    · exact zipnext_free D (fun h => free_none hz h) hz hTI hTO h1 h2 hl1 hl2 hx hy fun h' q1 q2 q3 q4 q5 q6 q7 => hQ' _ _ (hQ h' ⟨_, _, q1, .inr ⟨_, rfl⟩⟩ ⟨_, _, q2⟩ q3 q4 q5 q6 q7)
    · cases hT : s.heap.get? T with
      | none => exact zipnext_free D (fun h => free_gone hz hT h) hz hTI hTO h1 h2 hl1 hl2 hx hy fun h' q1 q2 q3 q4 q5 q6 q7 => hQ' _ _ (hQ h' ⟨_, _, q1, .inr ⟨_, rfl⟩⟩ ⟨_, _, q2⟩ q3 q4 q5 q6 q7)
      | some o => exact PySem.zip_next_item_held D hz hT hTI h1 h2 hl1 hl2 hx hy fun h' q1 q3 q4 q5 q6 q7 => hQ' _ _ (hQ h' ⟨_, _, q1, .inr ⟨_, rfl⟩⟩ ⟨_, _, q7 _ _ D.TOz D.TOi1 D.TOi2 hTO⟩ q3 q4 q5 q6 fun c o c1 _ c3 c4 e => q7 c o c1 c3 c4 e)
  refine wpAny_bind (wpAny_callSpecial?_slot (name := Str.ofString "__next__") hTy F.slot_zip_next
    (wpAny_call_entry F.slot_zip_next hTy F.entry_zip_next (fin _ fun v s' h => wpAny_pure h) (F.args_zip_next_1 _)))
theorem zipend_any {z TI TO i1 i2 l1 l2 : Addr} {k1 k2 : Nat} {xs ys : Array Value} {a b : Value} {Q : Value → Shared → Prop} (hh : A.handled = none) (D : ZipApart z TI TO i1 i2 l1 l2)
    (hz : ZipS s.heap z TI TO) (hTI : IsPair s.heap TI (.ref i1) (.ref i2)) (hTO : IsPair s.heap TO a b)
    (h1 : s.heap.IsListIter i1 l1 k1) (h2 : s.heap.IsListIter i2 l2 k2) (hl1 : s.heap.IsList l1 xs) (hl2 : s.heap.IsList l2 ys) (hend : xs[k1]? = none ∨ ys[k2]? = none)
    (hE : ∀ h' e, (∀ c o, c ≠ z → c ≠ TO → c ≠ i1 → c ≠ i2 → s.heap.get? c = some o → h'.get? c = some o) → (∃ o, h'.get? e = some o ∧ o.cls = .type "StopIteration") → E (.ref e) { s with heap := h' }) :
    wpAny (model prog w) A (Builtin.SmallTypes.nextOf (.ref z)) Q E s := by
  obtain ⟨f0, f1, hz, hf⟩ := hz
  have hTy : s.TypeIs (.ref z) "zip" := ⟨_, hz, rfl⟩
  unfold Builtin.SmallTypes.nextOf
  have fin : ∀ Q' : Fin → Shared → Prop, wpAny (model prog w) A.in1 (Builtin.«zip.__next__» ⟨[.ref z], []⟩) Q' E s := by
    intro Q'
    rcases hf with rfl | ⟨T, rfl⟩
    · exact zipend_free hh D (fun h => free_none hz h) hz hTI hTO h1 h2 hl1 hl2 hend hE
    · cases hT : s.heap.get? T with
      | none => exact zipend_free hh D (fun h => free_gone hz hT h) hz hTI hTO h1 h2 hl1 hl2 hend hE
      | some o => exact PySem.zip_next_end_held hh D hz hT hTI h1 h2 hl1 hl2 hend fun h' e k q => hE h' e (fun c o c1 _ c3 c4 x => k c o c1 c3 c4 x) q
  refine wpAny_bind (wpAny_callSpecial?_slot (name := Str.ofString "__next__") hTy F.slot_zip_next
    (wpAny_call_entry F.slot_zip_next hTy F.entry_zip_next (fin _) (F.args_zip_next_1 _)))
/-- the next number and item of an enumerate, its inner iterator told by what it gives -/
theorem enumnext_of {e it : Addr} {c : Int} {x old : Value} {Q : Value → Shared → Prop} {R : Heap → Prop} (he : IsEnum s.heap e it c old)
    (inner : ∀ {Q' : Value → Shared → Prop}, (∀ h₁, R h₁ → Q' x { s with heap := h₁ }) → wpAny (model prog w) A (Builtin.SmallTypes.nextOf (.ref it)) Q' E s)
    (kE : ∀ h₁, R h₁ → IsEnum h₁ e it c old)
    (hQ : ∀ h₁ h', R h₁ → IsEnumOut h' e it (c + 1) x h₁.objs.size → h'.get? h₁.objs.size = some { cls := .type "tuple", data := .seq #[.int c s.toks, x] } → h'.objs.size = h₁.objs.size + 1 →
      (∀ b o, b ≠ e → h₁.get? b = some o → h'.get? b = some o) → Q (.ref h₁.objs.size) { s with heap := h', toks := s.toks + 1 }) :
    wpAny (model prog w) A (Builtin.«enumerate.__next__» ⟨[.ref e], []⟩) (fun fin s' => ∃ v, fin = .done (.ret v) ∧ Q v s') E s := by
  obtain ⟨hp, g, d, tk, os⟩ := s
  show wpAny _ _ (field (.ref e) 2 >>= _) _ _ _
  refine wpAny_bind (wpAny_field he rfl (x := .ref it) rfl (wpAny_bind (inner fun g1 r1 => ?_)))
  have e1 : IsEnum g1 e it c old := kE g1 r1
  show wpAny _ _ (field (.ref e) 3 >>= _) _ _ ⟨g1, g, d, tk, os⟩
  refine wpAny_bind (wpAny_field e1 rfl (x := rawInt c) rfl ?_)
  show wpAny _ _ (field (.ref e) 4 >>= _) _ _ ⟨g1, g, d, tk, os⟩
  refine wpAny_bind (wpAny_field e1 rfl (x := .none) rfl ?_)
  show wpAny _ _ (mkInt c >>= _) _ _ ⟨g1, g, d, tk, os⟩
  refine wpAny_bind (wpAny_mkInt ?_)
  show wpAny _ _ (setField (.ref e) 3 (rawInt (c + 1)) >>= _) _ _ ⟨g1, g, d, tk + 1, os⟩
  refine wpAny_bind (wpAny_setField_rec e1 (by simp) fun g2 e2 s2 => ?_)
  replace e2 : IsEnum g2 e it (c + 1) old := e2
  show wpAny _ _ (setField (.ref e) 4 .none >>= _) _ _ ⟨g2, g, d, tk + 1, os⟩
  refine wpAny_bind (wpAny_setField_rec e2 (by simp) fun g3 e3 s3 => ?_)
  replace e3 : IsEnum g3 e it (c + 1) old := e3
  show wpAny _ _ (newTuple [.int c tk, x] >>= _) _ _ ⟨g3, g, d, tk + 1, os⟩
  refine wpAny_bind (wpAny_newTuple ?_)
  have sz : g3.objs.size = g1.objs.size := by rw [s3.1, s2.1]
  have elt : e < g1.objs.size := Heap.lt_size e1
  have e4 : IsEnum (g3.push { cls := .type "tuple", data := .seq #[.int c tk, x] }) e it (c + 1) old := Heap.get?_push_of_some _ e3
  show wpAny _ _ (Builtin.SmallTypes.ownedTupleIsFree (.ref e) >>= _) _ _ ⟨_, g, d, tk + 1, os⟩
  refine wpAny_bind ?_
  unfold Builtin.SmallTypes.ownedTupleIsFree
  refine wpAny_bind (wpAny_field e4 rfl (x := .none) rfl (wpAny_pure ?_))
  simp only [if_true]
  refine wpAny_bind (wpAny_rule (wpAny_bind (wpAny_field e4 rfl (x := old) rfl (wpAny_bind (wpAny_setField_rec e4 (by simp) fun g5 e5 s5 => ?_)))))
  replace e5 : IsEnum g5 e it (c + 1) x := e5
  show wpAny _ _ (Builtin.SmallTypes.ownedTupleHandOut (.ref e) (.ref g3.objs.size) >>= _) _ _ ⟨g5, g, d, tk + 1, os⟩
  refine wpAny_bind ?_
  unfold Builtin.SmallTypes.ownedTupleHandOut
  refine wpAny_bind (wpAny_setField_rec e5 (by simp) fun g6 e6 s6 => ?_)
  replace e6 : IsEnumOut g6 e it (c + 1) x g3.objs.size := e6
  refine wpAny_setField_rec e6 (by simp) fun g7 e7 s7 => ?_
  replace e7 : IsEnumOut g7 e it (c + 1) x g3.objs.size := e7
  have up : ∀ b o, b ≠ e → (g3.push { cls := .type "tuple", data := .seq #[.int c tk, x] }).get? b = some o → g7.get? b = some o := fun b o n q => s7.extBut _ _ n (s6.extBut _ _ n (s5.extBut _ _ n q))
  have t7 : g7.get? g3.objs.size = some { cls := .type "tuple", data := .seq #[.int c tk, x] } := up _ _ (by rw [sz]; exact Nat.ne_of_gt elt) (Heap.get?_push_size _ rfl)
  have z7 : g7.objs.size = g3.objs.size + 1 := by rw [s7.1, s6.1, s5.1, Heap.size_push]
  rw [sz] at e7 t7 z7
  refine wpAny_bind (wpAny_letGo (wpAny_pure ⟨_, rfl, ?_⟩))
  rw [sz]
  exact hQ g1 g7 r1 e7 t7 z7 fun b o n q => up b o n (Heap.get?_push_of_some _ (s3.extBut _ _ n (s2.extBut _ _ n q)))
theorem enumend_of {e it : Addr} {c : Int} {old : Value} {Q : Fin → Shared → Prop} (he : IsEnum s.heap e it c old) (inner : ∀ {Q' : Value → Shared → Prop}, wpAny (model prog w) A (Builtin.SmallTypes.nextOf (.ref it)) Q' E s) :
    wpAny (model prog w) A (Builtin.«enumerate.__next__» ⟨[.ref e], []⟩) Q E s := by
  show wpAny _ _ (field (.ref e) 2 >>= _) _ _ _
  exact wpAny_bind (wpAny_field he rfl (x := .ref it) rfl (wpAny_bind inner))
end
/-! ### enumerate(zip(a, b), k) -/
/-- the lists at a and b as they stand at each turn, the items in new pairs, each in a new pair with its number -/
def Itez (K : PySem.W.Frag) (k0 : Int) (a b : Addr) : It :=
  ⟨fun i H => ∃ (xs ys : List V) (x y : V), SqL K H a xs ∧ SqL K H b ys ∧ xs[i]? = some x ∧ ys[i]? = some y,
    fun i H v H' => ∃ T U x y, v = .ref T ∧ H U = none ∧ H T = none ∧ T ≠ U ∧ H' = upd (upd H U (.tup [x, y])) T (.tup [.int (k0 + (i : Nat)), .ref U]) ∧ (∀ xs, SqL K H a xs → xs[i]? = some x) ∧ ∀ ys, SqL K H b ys → ys[i]? = some y,
    fun i H => ∃ xs ys : List V, SqL K H a xs ∧ SqL K H b ys ∧ (xs.length ≤ i ∨ ys.length ≤ i)⟩
/-- the enumerate lies apart from the zip's cells -/
structure EzApart (e z TI TO i1 i2 : Addr) : Prop where
  ez : e ≠ z
  eTI : e ≠ TI
  eTO : e ≠ TO
  ei1 : e ≠ i1
  ei2 : e ≠ i2
def EzSt (e z TI TO i1 i2 a b : Addr) (k0 : Int) (i : Nat) (h : Heap) : Prop :=
  (∃ old, IsEnum h e z (k0 + (i : Nat)) old) ∧ ZipS h z TI TO ∧ PySem.IsPair h TI (.ref i1) (.ref i2) ∧ (∃ x y, PySem.IsPair h TO x y) ∧ h.IsListIter i1 a i ∧ h.IsListIter i2 b i
theorem turn_ez {P : Program} {w : World} {K : PySem.W.Frag} {elts : List Expr} {kk : Nat} {tpos : Pos} {a b e z TI TO i1 i2 : Addr} (k0 : Int) (D : ZipApart z TI TO i1 i2 a b) (S : EzApart e z TI TO i1 i2) :
    Turn P w K (.Tuple elts kk tpos) (Itez K k0 a b) [e, z, TI, TO, i1, i2] e (EzSt e z TI TO i1 i2 a b k0) where
  mem := by simp
  obj := fun i h st c hc => by
    obtain ⟨⟨old, he⟩, ⟨f0, f1, hz, _⟩, hTI, ⟨x, y, hTO⟩, ⟨o1, e1, _, d1⟩, ⟨o2, e2, _, d2⟩⟩ := st
    have e' : c = e ∨ c = z ∨ c = TI ∨ c = TO ∨ c = i1 ∨ c = i2 := by simpa using hc
    rcases e' with q | q | q | q | q | q
    · rw [q]; exact ⟨_, he, fun v q => nomatch q⟩
    · rw [q]; exact ⟨_, hz, fun v q => nomatch q⟩
    · rw [q]; exact ⟨_, hTI, fun v q => nomatch q⟩
    · rw [q]; exact ⟨_, hTO, fun v q => nomatch q⟩
    · rw [q]; exact ⟨o1, e1, fun v q => by rw [d1] at q; cases q⟩
    · rw [q]; exact ⟨o2, e2, fun v q => by rw [d2] at q; cases q⟩
  keep := fun i h h' st k => by
    obtain ⟨⟨old, he⟩, ⟨f0, f1, hz, hf⟩, hTI, ⟨x, y, hTO⟩, h1, h2⟩ := st
    exact ⟨⟨old, k e (by simp) _ he⟩, ⟨f0, f1, k z (by simp) _ hz, hf⟩, k TI (by simp) _ hTI, ⟨x, y, k TO (by simp) _ hTO⟩, h1.at fun o q => k i1 (by simp) o q, h2.at fun o q => k i2 (by simp) o q⟩
  item := by
    intro X hP hw hK hc i pins s σ H E I hf st hg
    subst hP hw hK
    obtain ⟨⟨old, he⟩, hz, hTI, ⟨x0, y0, hTO⟩, h1, h2⟩ := st
    obtain ⟨xs, ys, x, y, hqx, hqy, hx, hy⟩ := hg
    obtain ⟨its, rv, p, _⟩ := I.list hqx
    obtain ⟨its2, rv2, p2, _⟩ := I.list hqy
    obtain ⟨u, hu, ru⟩ := rv.get hx
    obtain ⟨u2, hu2, ru2⟩ := rv2.get hy
    have lte : e < s.heap.objs.size := Heap.lt_size he
    have ltz : z < s.heap.objs.size := by obtain ⟨_, _, q, _⟩ := hz; exact Heap.lt_size q
    have ltTI : TI < s.heap.objs.size := Heap.lt_size hTI
    have ltTO : TO < s.heap.objs.size := Heap.lt_size hTO
    have lt1 : i1 < s.heap.objs.size := by obtain ⟨_, q, _⟩ := h1; exact Heap.lt_size q
    have lt2 : i2 < s.heap.objs.size := by obtain ⟨_, q, _⟩ := h2; exact Heap.lt_size q
    have all : ∀ c ∈ [e, z, TI, TO, i1, i2], c < s.heap.objs.size := fun c hcm => by
      have e' : c = e ∨ c = z ∨ c = TI ∨ c = TO ∨ c = i1 ∨ c = i2 := by simpa using hcm
      rcases e' with q | q | q | q | q | q <;> (rw [q]; assumption)
    have hT : s.TypeIs (.ref e) "enumerate" := ⟨_, he, rfl⟩
    unfold pyNext
    refine wpAny_bind (wpAny_attempt (wpAny_callSpecial?_slot (name := Str.ofString "__next__") hT PySem.F.slot_enumerate_next
      (wpAny_call_entry PySem.F.slot_enumerate_next hT PySem.F.entry_enumerate_next ?_ (PySem.F.args_enumerate_next_1 _))))
    refine enumnext_of (x := .ref s.heap.objs.size) (R := fun g => ZipS g z TI TO ∧ (∃ x y, PySem.IsPair g TO x y) ∧ g.IsListIter i1 a (i + 1) ∧ g.IsListIter i2 b (i + 1) ∧ PySem.IsPair g s.heap.objs.size u u2 ∧ g.objs.size = s.heap.objs.size + 1 ∧
      ∀ c o, c ≠ z → c ≠ TO → c ≠ i1 → c ≠ i2 → s.heap.get? c = some o → g.get? c = some o) he (fun {Q'} q => zipnext_any D hz hTI hTO h1 h2 p.isList p2.isList (x := u) (y := u2) (by simpa using hu) (by simpa using hu2) fun g a1 a2 a3 a4 a5 a6 a7 => q g ⟨a1, a2, a3, a4, a5, a6, a7⟩)
      (fun g r => r.2.2.2.2.2.2 _ _ S.ez S.eTO S.ei1 S.ei2 he) fun g g' r oe tT sz k => ?_
    obtain ⟨gz, ⟨x1, y1, gTO⟩, g1, g2, gU, gs, gk⟩ := r
    refine wpAny_pure ⟨_, rfl, wpAny_letOwnedTupleGo_enum (s := { s with heap := g', toks := s.toks + 1 }) oe fun h'' he' sb => ?_⟩
    have ge : e ≠ g.objs.size := by rw [gs]; exact Nat.ne_of_lt (Nat.lt_succ_of_lt lte)
    have eU : e ≠ s.heap.objs.size := Nat.ne_of_lt lte
    have UT : s.heap.objs.size ≠ g.objs.size := by rw [gs]; exact Nat.ne_of_lt (Nat.lt_succ_self _)
    have kk : ∀ c o, c ≠ e → g.get? c = some o → h''.get? c = some o := fun c o n q => (sb.2 c n).trans (k c o n q)
    have kall : ∀ c o, c ∉ [e, z, TI, TO, i1, i2] → s.heap.get? c = some o → h''.get? c = some o := fun c o hn q => kk c o (fun q' => hn (by simp [q'])) (gk c o (fun q' => hn (by simp [q'])) (fun q' => hn (by simp [q'])) (fun q' => hn (by simp [q'])) (fun q' => hn (by simp [q'])) q)
    have hU2 : PySem.IsPair h'' s.heap.objs.size u u2 := kk _ _ eU.symm gU
    have hT2 : h''.get? g.objs.size = some { cls := .type "tuple", data := .seq #[.int (k0 + (i : Nat)) s.toks, .ref s.heap.objs.size] } := (sb.2 _ ge.symm).trans tT
    have fU : H s.heap.objs.size = none := I.hok.fresh (Nat.le_refl _)
    have newU : ObjOk X.prog X.w (upd H s.heap.objs.size (.tup [x, y])) g s.heap.objs.size (.tup [x, y]) :=
      ⟨by show 2 ≤ sizeLine; decide, [u, u2], .cons ru (.cons ru2 .nil), ⟨_, gU, rfl, _, rfl⟩⟩
    have I1 : Inv X pins σ (upd H s.heap.objs.size (.tup [x, y])) { s with heap := g, toks := s.toks } := I.turnedNew (ch := [e, z, TI, TO, i1, i2]) (fun c o hn q => gk c o (fun q' => hn (by simp [q'])) (fun q' => hn (by simp [q'])) (fun q' => hn (by simp [q'])) (fun q' => hn (by simp [q'])) q) hf (Nat.le_refl _) newU
    have hf1 : ∀ c ∈ [e, z, TI, TO, i1, i2], FpOk X pins (upd H s.heap.objs.size (.tup [x, y])) c := fun c hcm => ⟨by rw [upd_ne (Nat.ne_of_lt (all c hcm))]; exact (hf c hcm).1, (hf c hcm).2⟩
    have fT : H g.objs.size = none := I.hok.fresh (by rw [gs]; exact Nat.le_succ _)
    have fT1 : upd H s.heap.objs.size (.tup [x, y]) g.objs.size = none := by rw [upd_ne UT.symm]; exact fT
    have newT : ObjOk X.prog X.w (upd (upd H s.heap.objs.size (.tup [x, y])) g.objs.size (.tup [.int (k0 + (i : Nat)), .ref s.heap.objs.size])) h'' g.objs.size (.tup [.int (k0 + (i : Nat)), .ref s.heap.objs.size]) :=
      ⟨by show 2 ≤ sizeLine; decide, [.int (k0 + (i : Nat)) s.toks, .ref s.heap.objs.size], .cons ⟨_, rfl⟩ (.cons rfl .nil), ⟨_, hT2, rfl, _, rfl⟩⟩
    have I2 : Inv X pins σ (upd (upd H s.heap.objs.size (.tup [x, y])) g.objs.size (.tup [.int (k0 + (i : Nat)), .ref s.heap.objs.size])) { s with heap := h'', toks := s.toks + 1 } :=
      I1.turnedNew (ch := [e, z, TI, TO, i1, i2]) (fun c o hn q => kk c o (fun q' => hn (by simp [q'])) q) hf1 (Nat.le_refl _) newT
    refine ⟨.ref g.objs.size, _, I2, rfl, ⟨_, _, x, y, rfl, fU, fT, UT.symm, rfl, fun l hl => by rw [I.list_inj hl hqx]; exact hx, fun l hl => by rw [I.list_inj hl hqy]; exact hy⟩, ⟨⟨.ref s.heap.objs.size, ?_⟩, ?_, ?_, ⟨x1, y1, ?_⟩, ?_, ?_⟩, fun c hcm => ?_⟩
    · have q : k0 + ((i + 1 : Nat) : Int) = k0 + (i : Nat) + 1 := by omega
      rw [q]; exact he'
    · obtain ⟨f0, f1, q, r⟩ := gz
      exact ⟨f0, f1, kk _ _ S.ez.symm q, r⟩
    · exact kk _ _ S.eTI.symm (gk _ _ D.TIz D.TITO D.TIi1 D.TIi2 hTI)
    · exact kk _ _ S.eTO.symm gTO
    · exact g1.at fun o q => kk _ o S.ei1.symm q
    · exact g2.at fun o q => kk _ o S.ei2.symm q
    · have lt := all c hcm
      rw [upd_ne (Nat.ne_of_lt (by rw [gs]; exact Nat.lt_succ_of_lt lt)), upd_ne (Nat.ne_of_lt lt)]
      exact (hf c hcm).1
  done := by
    intro X hP hw hK hc i pins s σ H E I hf st hg
    subst hP hw hK
    obtain ⟨⟨old, he⟩, hz, hTI, ⟨x0, y0, hTO⟩, h1, h2⟩ := st
    obtain ⟨xs, ys, hqx, hqy, hend⟩ := hg
    obtain ⟨its, rv, p, _⟩ := I.list hqx
    obtain ⟨its2, rv2, p2, _⟩ := I.list hqy
    have l1 := rv.length
    have l2 := rv2.length
    have hn : its.toArray[i]? = none ∨ its2.toArray[i]? = none := by
      rcases hend with q | q
      · exact .inl (by simp; omega)
      · exact .inr (by simp; omega)
    have hT : s.TypeIs (.ref e) "enumerate" := ⟨_, he, rfl⟩
    unfold pyNext
    refine wpAny_bind (wpAny_attempt (wpAny_callSpecial?_slot (name := Str.ofString "__next__") hT PySem.F.slot_enumerate_next
      (wpAny_call_entry PySem.F.slot_enumerate_next hT PySem.F.entry_enumerate_next (enumend_of he fun {Q'} => zipend_any (I.ok.hd hc) D hz hTI hTO h1 h2 p.isList p2.isList hn fun h' x k hx => ?_) (PySem.F.args_enumerate_next_1 _))))
    obtain ⟨o, ho, hcl⟩ := hx
    refine wpAny_bind (wpAny_isInstance (T := "StopIteration") (b := true) ⟨o, ho, hcl⟩ isSubtype_stop ?_)
    exact wpAny_pure ⟨rfl, I.turnedL (t' := s.toks) (ch := [e, z, TI, TO, i1, i2]) (fun c o hb q => k c o (fun q' => hb (by simp [q'])) (fun q' => hb (by simp [q'])) (fun q' => hb (by simp [q'])) (fun q' => hb (by simp [q'])) q) hf⟩
  self := fun A i s Q E st h => let ⟨⟨_, he⟩, _⟩ := st; wpAny_pyIter_enum he h
/-- enumerate(z, k), z a zip: one new cell -/
theorem meets_ez {z TI TO : Addr} (k : Int) (t : Tok) (hfit : Builtin.SmallTypes.fitsIndex k = true) :
    Meets (Builtin.«enumerate.__new__» ⟨[.type "enumerate", .ref z, .int k t], []⟩) (fun _ R s => PySem.IsZip s.heap z TI TO .none ∧
      R (.ok (.ret (.ref s.heap.objs.size))) { s with heap := s.heap.push { cls := .type "enumerate", data := .fields #[.none, .bool false, .ref z, rawInt k, .none, .none] } }) :=
  .of_wp fun prog w A R s h => by
    obtain ⟨hp, g, d, tk, os⟩ := s; obtain ⟨h1, h⟩ := h
    have hsub := sub_enumerate
    have hnf : (!Builtin.SmallTypes.fitsIndex k) = false := by rw [hfit]; rfl
    have q1 : ∀ {A' : Around} {E : Value → Shared → Prop} {Q : Value → Shared → Prop}, Q (.ref z) ⟨hp, g, d, tk, os⟩ → wpAny (model prog w) A' (pyIter (.ref z)) Q E ⟨hp, g, d, tk, os⟩ :=
      fun q => wpAny_pyIter_zip h1 q
    wp_walk using q1
    refine wpAny_stack_any fun st => wpAny_pure ?_
    split
    · rename_i c _ _ _ _ _
      cases (c == Value.type "enumerate")
      · wp_walk using q1
        exact ⟨_, rfl, h⟩
      · wp_walk using q1
        exact ⟨_, rfl, h⟩
    · wp_walk using q1
      exact ⟨_, rfl, h⟩
theorem ez_begins {prog : Program} {w : World} {A : Around} {E : Value → Shared → Prop} {s : Shared} {z TI TO : Addr} {k : Int} {t : Tok} {Q : Value → Shared → Prop} (hz : PySem.IsZip s.heap z TI TO .none) (hk0 : -(2 ^ 63) ≤ k) (hk1 : k < 2 ^ 63)
    (h : ∀ h', IsEnum h' s.heap.objs.size z k .none → (∀ b o, s.heap.get? b = some o → h'.get? b = some o) → Q (.ref s.heap.objs.size) { s with heap := h' }) :
    wpAny (model prog w) A (call (.type "enumerate") [.ref z, .int k t]) Q E s := by
  refine callType_new PySem.F.called_enumerate (by decide) (PySem.F.typeCall_enumerate_2 _ _) (PySem.F.newCall_enumerate_2 _ _) (fun obj => PySem.F.args_object_init_3 obj _ _) PySem.F.entry_enumerate_new
    (meets_ez k t (fits_start hk0 hk1)) ⟨hz, ?_⟩
  have he : IsEnum (s.heap.push { cls := .type "enumerate", data := .fields #[.none, .bool false, .ref z, rawInt k, .none, .none] }) s.heap.objs.size z k .none := Heap.get?_push_size _ rfl
  exact ⟨⟨_, he, rfl⟩, h _ he fun b o x => Heap.get?_push_of_some _ x⟩
def iEnumZip (K : PySem.W.Frag) (k : Int) (ta : TA) : TI := fun σ H R => ta σ H fun vs H1 => ∃ a b xs ys, vs = [.ref a, .ref b] ∧ SqL K H1 a xs ∧ SqL K H1 b ys ∧ R (Itez K k a b) H1
theorem pi_enumzip {X : Cx} {e e2 : Expr} {ta : TA} {p p2 p3 pos pos2 tpos : Pos} {elts : List Expr} {kk j : Nat} {k : Int} (hg : Gl X "enumerate") (hm : X.mg "enumerate" = none) (hg2 : Gl X "zip") (hm2 : X.mg "zip" = none) (ha : PA X [e, e2] ta) (hk0 : -(2 ^ 63) ≤ k := by decide) (hk1 : k < 2 ^ 63 := by decide)
    (hs : starEach [e, e2] X.env = (false, eval e X.env) :: starEach [e2] X.env := by rfl) (hpl : (backTo pos2 (starEach [e2] X.env)).any (·.1) = false := by rfl)
    (hs2 : starEach [.Call (.Name "zip" p2) [e, e2] [] pos2, .Constant (.int k) j p3] X.env = (false, eval (.Call (.Name "zip" p2) [e, e2] [] pos2) X.env) :: starEach [.Constant (.int k) j p3] X.env := by rfl)
    (hpl2 : (backTo pos (starEach [.Constant (.int k) j p3] X.env)).any (·.1) = false := by rfl) :
    PI X (.Tuple elts kk tpos) (.Call (.Name "enumerate" p) [.Call (.Name "zip" p2) [e, e2] [] pos2, .Constant (.int k) j p3] [] pos) (iEnumZip X.K k ta) := by
  refine ⟨fun pins s σ H R I h => ?_⟩
  refine Call_ (ld_blt I hg hm boot_enumerate (PyProof.Rows.callWith_type1 ?_ hs2 hpl2))
  rw [hs2]
  show wpAny _ _ (spliced ((false, eval (.Call (.Name "zip" p2) [e, e2] [] pos2) X.env) :: backTo pos (starEach [.Constant (.int k) j p3] X.env))) _ _ s
  refine Calls.spliced_cons ?_
  refine Call_ (ld_blt I hg2 hm2 PyProof.Rows.boot_zip (PyProof.Rows.callWith_type1 (thn (ha.run pos2 pins s σ H _ I h) fun us s1 ⟨vs, H1, I1, r1, q1⟩ => ?_) hs hpl))
  obtain ⟨a, b, xs, ys, ex, hqx, hqy, q⟩ := q1
  subst ex
  cases r1 with
  | cons r rr =>
    cases rr with
    | cons r' rr =>
      cases rr
      cases r
      cases r'
      obtain ⟨its, rv, p1, _⟩ := I1.list hqx
      obtain ⟨its2, rv2, p2, _⟩ := I1.list hqy
      have la : a < s1.heap.objs.size := p1.lt
      have lb : b < s1.heap.objs.size := p2.lt
      refine call_zip_2 p1.isList p2.isList fun h' hz hTI hTO h1 h2 hsz hk => ?_
      have I2 : Inv X pins σ H1 { s1 with heap := h' } := I1.kept (t' := s1.toks) hk
      show wpAny _ _ (spliced ((false, eval (.Constant (.int k) j p3) X.env) :: backTo pos (starEach [] X.env))) _ _ _
      refine Calls.spliced_cons (wpAny_Constant_int (Calls.spliced_nil ?_))
      refine ez_begins (TI := s1.heap.objs.size + 2) (TO := s1.heap.objs.size + 3) hz hk0 hk1 fun h'' he hk' => wpAny_pyIter_enum he ?_
      have I3 : Inv X pins σ H1 { s1 with heap := h'', toks := s1.toks + 1 } := I1.kept fun c o q => hk' _ _ (hk _ _ q)
      refine ⟨_, [_, s1.heap.objs.size + 4, s1.heap.objs.size + 2, s1.heap.objs.size + 3, s1.heap.objs.size, s1.heap.objs.size + 1], _, _, H1, rfl, I3, turn_ez k (PySem.W.ktu_apart s1.heap.objs.size a b la lb) ⟨?_, ?_, ?_, ?_, ?_⟩,
        ⟨⟨.none, ?_⟩, ⟨_, _, hk' _ _ hz, .inl rfl⟩, hk' _ _ hTI, ⟨_, _, hk' _ _ hTO⟩, h1.at fun o q => hk' _ o q, h2.at fun o q => hk' _ o q⟩, fun c hcm => ?_, q⟩
      any_goals (show h'.objs.size ≠ _; rw [hsz]; exact Nat.ne_of_gt (by omega))
      · have e0 : k + ((0 : Nat) : Int) = k := by omega
        rw [e0]; exact he
      · have e' : c = h'.objs.size ∨ c = s1.heap.objs.size + 4 ∨ c = s1.heap.objs.size + 2 ∨ c = s1.heap.objs.size + 3 ∨ c = s1.heap.objs.size ∨ c = s1.heap.objs.size + 1 := by simpa using hcm
        have hle : s1.heap.objs.size ≤ c := by
          rcases e' with z | z | z | z | z | z
          · rw [z, hsz]; exact Nat.le_add_right _ _
          · rw [z]; exact Nat.le_add_right _ _
          · rw [z]; exact Nat.le_add_right _ _
          · rw [z]; exact Nat.le_add_right _ _
          · rw [z]; exact Nat.le_refl _
          · rw [z]; exact Nat.le_add_right _ _
        exact I1.fpOk hle (I1.hok.fresh hle)
end KX

namespace KX
open PySem PySem.Spec PyProof.Rows L2
/-! ### walks that may lay new pairs: n turns, what comes at turn i is told by R -/
structure Wq (J : It) (n : Nat) (G : Hp → Prop) (R : Nat → V → Hp → Prop) : Prop where
  go : ∀ i H, G H → i < n → J.go i H
  yl : ∀ i H x H', G H → J.yld i H x H' → i < n → Same H H' ∧ R i x H'
  st : ∀ H, G H → J.stop n H
theorem Wk.q {J : It} {xs : List V} {G : Hp → Prop} (W : Wk J xs G) : Wq J xs.length G fun i x _ => xs[i]? = some x :=
  ⟨W.go, fun i H x H' g y h => by obtain ⟨e, k⟩ := W.yl i H x H' g y h; subst e; exact ⟨Same.refl _, k⟩, fun H g => W.st _ H g (Nat.le_refl _)⟩
/-- a pair at its address -/
def PairAt (f g : Nat → Option V) : Nat → V → Hp → Prop := fun i v H => ∃ T x y, v = .ref T ∧ H T = some (.tup [x, y]) ∧ f i = some x ∧ g i = some y
theorem wq_enum {K : PySem.W.Frag} {a : Addr} {xs : List V} : Wq (Ite K a) xs.length (fun H => SqL K H a xs) (PairAt (fun i => some (.int (i : Nat))) (fun i => xs[i]?)) := by
  have W := walk_enum (K := K) (a := a) (xs := xs)
  refine ⟨fun i H g h => W.goes i H h g, fun i H x H' g y h => ?_, fun H g => W.stops H g⟩
  obtain ⟨T, u, v, e, n, e2, h1, h2⟩ := W.yields i H x H' h g y
  subst e2
  exact ⟨same_new n, T, u, v, e, upd_same, h1, h2⟩
theorem wq_zip {K : PySem.W.Frag} {a b : Addr} {xs ys : List V} {n : Nat} (hn : n = min xs.length ys.length) : Wq (Itz K a b) n (fun H => SqL K H a xs ∧ SqL K H b ys) (PairAt (fun i => xs[i]?) (fun i => ys[i]?)) := by
  have W := walk_zip (K := K) (a := a) (b := b) (xs := xs) (ys := ys) hn
  refine ⟨fun i H g h => W.goes i H h g, fun i H x H' g y h => ?_, fun H g => W.stops H g⟩
  obtain ⟨T, u, v, e, n, e2, h1, h2⟩ := W.yields i H x H' h g y
  subst e2
  exact ⟨same_new n, T, u, v, e, upd_same, h1, h2⟩
def PairAt2 (k0 : Int) (f g : Nat → Option V) : Nat → V → Hp → Prop := fun i v H => ∃ T U x y, v = .ref T ∧ H T = some (.tup [.int (k0 + (i : Nat)), .ref U]) ∧ H U = some (.tup [x, y]) ∧ f i = some x ∧ g i = some y
theorem wq_ez {K : PySem.W.Frag} {k0 : Int} {a b : Addr} {xs ys : List V} {n : Nat} (hn : n = min xs.length ys.length) : Wq (Itez K k0 a b) n (fun H => SqL K H a xs ∧ SqL K H b ys) (PairAt2 k0 (fun i => xs[i]?) (fun i => ys[i]?)) := by
  subst hn
  refine ⟨fun i H g h => ?_, fun i H v H' g y h => ?_, fun H g => ⟨xs, ys, g.1, g.2, by omega⟩⟩
  · have h1 : i < xs.length := by omega
    have h2 : i < ys.length := by omega
    exact ⟨xs, ys, xs[i], ys[i], g.1, g.2, by simp [h1], by simp [h2]⟩
  · obtain ⟨T, U, x, z, e, hU, hT, ne, eH, k1, k2⟩ := y
    subst eH
    have n1 : upd H U (.tup [x, z]) T = none := by rw [upd_ne ne]; exact hT
    exact ⟨(same_new hU).trans (same_new n1), T, U, x, z, e, upd_same, by rw [upd_ne ne.symm]; exact upd_same, k1 xs g.1, k2 ys g.2⟩
theorem f_wq {J : It} {n : Nat} {G : Hp → Prop} {R : Nat → V → Hp → Prop} (W : Wq J n G R) {g : TG} {tb : TS} {f b k : L2.St → Hp → Prop} {Q : VK} {σ : L2.St} {H : Hp} (Pv : Nat → L2.St → Hp → Prop) (h0 : Pv 0 σ H) (hG : ∀ i σ H, Pv i σ H → G H)
    (hs : ∀ i x σ H H', i < n → Pv i σ H → Same H H' → R i x H' → g x σ H' fun σ2 H2 => tb ⟨Pv (i + 1), Q, f, Pv (i + 1)⟩ σ2 H2) (hd : ∀ σ H, Pv n σ H → f σ H) : ForR J g tb ⟨f, Q, b, k⟩ σ H := by
  refine ⟨fun i m σ H => m = n - i ∧ i ≤ n ∧ Pv i σ H, ⟨n, by simp, Nat.zero_le _, h0⟩, ?_⟩
  rintro i m σ H ⟨rfl, hi, p⟩
  by_cases hlt : i < n
  · refine .inr ⟨W.go i H (hG _ _ _ p) hlt, Pv (i + 1), fun σ' H' p' => ⟨n - (i + 1), by omega, rfl, hlt, p'⟩, fun x H' y => ?_⟩
    obtain ⟨s, r⟩ := W.yl i H x H' (hG _ _ _ p) y hlt
    exact hs i x σ H H' hlt p s r
  · have e : i = n := by omega
    subst e
    exact .inl ⟨W.st H (hG _ _ _ p), hd σ H p⟩
theorem l_wq {J : It} {n : Nat} {G : Hp → Prop} {R : Nat → V → Hp → Prop} (W : Wq J n G R) {g : TG} {tt : TT} {te : TE} {vs : List Nat} {Q : VK} {σ : L2.St} {H1 : Hp}
    (q : ∀ D H0, H1 D = none → Same H1 H0 → H0 D = some (.lst []) → ∃ Pv : Nat → List V → Hp → Prop, Pv 0 [] H0 ∧ (∀ i ys H, Pv i ys H → G H) ∧
      (∀ i ys x H H', i < n → Pv i ys H → Same H H' → R i x H' → g x (wipe σ vs) H' fun σ2 H2 => wipe σ2 vs = wipe σ vs ∧ tt σ2 H2 fun b H3 =>
        if b = true then te σ2 H3 fun y H4 => LcEl D (Pv (i + 1)) y H4 else ∃ ys, Pv (i + 1) ys H3) ∧
      (∀ ys H, Pv n ys H → Q (.ref D) H)) : LcR J g tt te vs σ H1 Q := by
  intro D hD
  obtain ⟨Pv, h0, hG, hs, hd⟩ := q D _ hD (same_new hD) upd_same
  refine ⟨fun i m H => m = n - i ∧ i ≤ n ∧ ∃ ys, Pv i ys H, ⟨n, by simp, Nat.zero_le _, _, h0⟩, ?_⟩
  rintro i m H ⟨rfl, hi, ys, p⟩
  by_cases hlt : i < n
  · refine .inr ⟨W.go i H (hG _ _ _ p) hlt, fun H => ∃ ys, Pv (i + 1) ys H, fun H' p' => ⟨n - (i + 1), by omega, rfl, hlt, p'⟩, fun x H' y => ?_⟩
    obtain ⟨s, r⟩ := W.yl i H x H' (hG _ _ _ p) y hlt
    exact hs i ys x H H' hlt p s r
  · have e : i = n := by omega
    subst e
    exact .inl ⟨W.st H (hG _ _ _ p), hd ys H p⟩
/-- .. the test and the element change nothing of what was tracked, the elements are no new objects -/
theorem l_fq {J : It} {n : Nat} {G : Hp → Prop} {R : Nat → V → Hp → Prop} (W : Wq J n G R) {g : TG} {tt : TT} {te : TE} {vs : List Nat} {Q : VK} {σ : L2.St} {H1 : Hp} (p : Nat → Bool) (F : Nat → V) (hlen : n < sizeLine) (hG : ∀ H', Same H1 H' → G H')
    (hs : ∀ (i : Nat) x H' (S : VK) (N : Hp → Prop), i < n → R i x H' → Same H1 H' → (p i = true → ∀ H'', Same H' H'' → S (F i) H'') → (p i = false → ∀ H'', Same H' H'' → N H'') →
      g x (wipe σ vs) H' fun σ2 H2 => wipe σ2 vs = wipe σ vs ∧ tt σ2 H2 fun b H3 => if b = true then te σ2 H3 S else N H3)
    (q : ∀ D H', H1 D = none → Same H1 H' → H' D = some (.lst (((List.range n).filter p).map F)) → Q (.ref D) H') : LcR J g tt te vs σ H1 Q := by
  refine l_wq W fun D H0 n0 s0 e0 => ⟨fun i ys H => Same H1 H ∧ H D = some (.lst ys) ∧ ys = ((List.range i).filter p).map F ∧ ys.length ≤ i, ⟨s0, e0, rfl, Nat.le_refl _⟩, fun i ys H h => hG _ h.1, fun i ys x Ha H hi h sa hr => ?_, fun ys H h => ?_⟩
  · obtain ⟨s1, e1, hy, hl⟩ := h
    replace s1 := s1.trans sa
    replace e1 := sa _ _ e1
    have ht : List.range (i + 1) = List.range i ++ [i] := List.range_succ
    refine hs i x H (fun y H4 => LcEl D (fun ys H => Same H1 H ∧ H D = some (.lst ys) ∧ ys = ((List.range (i + 1)).filter p).map F ∧ ys.length ≤ i + 1) y H4) (fun H3 => ∃ ys, Same H1 H3 ∧ H3 D = some (.lst ys) ∧ ys = ((List.range (i + 1)).filter p).map F ∧ ys.length ≤ i + 1) hi hr s1 (fun hp H'' s2 => ?_) fun hp H'' s2 => ?_
    · refine i_lcEl (s2 _ _ e1) (by omega) fun H5 o5 e5 => ⟨Off.new n0 (s1.trans s2) o5, e5, ?_, by simp; omega⟩
      rw [ht, List.filter_append, List.map_append, hy]
      simp [hp]
    · refine ⟨ys, s1.trans s2, s2 _ _ e1, ?_, by omega⟩
      rw [ht, List.filter_append, List.map_append, hy]
      simp [hp]
  · obtain ⟨s1, e1, hy, hl⟩ := h
    rw [hy] at e1
    exact q D H n0 s1 e1
theorem lc_yes {g : TG} {te : TE} {x : V} {σ σ1 : L2.St} {H : Hp} {vs : List Nat} {S : VK} {N : Hp → Prop} (h : g x σ1 H fun σ2 H2 => wipe σ2 vs = wipe σ vs ∧ te σ2 H2 S) : g x σ1 H fun σ2 H2 => wipe σ2 vs = wipe σ vs ∧ tYes σ2 H2 fun b H3 => if b = true then te σ2 H3 S else N H3 := by
  have e : (fun (σ2 : L2.St) H2 => wipe σ2 vs = wipe σ vs ∧ tYes σ2 H2 fun b H3 => if b = true then te σ2 H3 S else N H3) = fun σ2 H2 => wipe σ2 vs = wipe σ vs ∧ te σ2 H2 S := by
    funext σ2 H2
    show (_ ∧ if true = true then te σ2 H2 S else N H2) = _
    rw [if_pos rfl]
  rw [e]; exact h
theorem l_mq {J : It} {n : Nat} {G : Hp → Prop} {R : Nat → V → Hp → Prop} (W : Wq J n G R) {g : TG} {te : TE} {vs : List Nat} {Q : VK} {σ : L2.St} {H1 : Hp} (F : Nat → V) (hlen : n < sizeLine) (hG : ∀ H', Same H1 H' → G H')
    (hs : ∀ (i : Nat) x H' (S : VK), i < n → R i x H' → Same H1 H' → (∀ H'', Same H' H'' → S (F i) H'') → g x (wipe σ vs) H' fun σ2 H2 => wipe σ2 vs = wipe σ vs ∧ te σ2 H2 S)
    (q : ∀ D H', H1 D = none → Same H1 H' → H' D = some (.lst ((List.range n).map F)) → Q (.ref D) H') : LcR J g tYes te vs σ H1 Q :=
  l_fq W (fun _ => true) F hlen hG (fun i x H' S N hi hr s1 hS _ => lc_yes (hs i x H' S hi hr s1 (hS rfl))) (fun D H' n0 s e => q D H' n0 s (by rw [e, List.filter_eq_self.mpr (by simp)]))
/-- .. each element is data that is laid anew -/
theorem Off.newP {D : Addr} {H0 H H' : Hp} (s : Off D H H') : Same (KX.wo D (KX.newP H0 H)) (KX.wo D (KX.newP H0 H')) := fun b o e => by
  by_cases h : b = D
  · have e' : KX.wo D (KX.newP H0 H) b = none := if_pos h
    rw [e'] at e; cases e
  · rw [wo_get h] at e ⊢
    unfold KX.newP at e ⊢
    split at e
    · next z => rw [if_pos z]; exact s _ _ h e
    · cases e
theorem l_dq {J : It} {n : Nat} {G : Hp → Prop} {R : Nat → V → Hp → Prop} {b : Bool} {K : PySem.W.Frag} (W : Wq J n G R) {g : TG} {te : TE} {vs : List Nat} {Q : VK} {σ : L2.St} {H1 : Hp} (dd : Nat → PyData) (hlen : n < sizeLine) (hG : ∀ H', Same H1 H' → G H')
    (hs : ∀ (i : Nat) x H' (S : VK) (D : Addr) (zs : List V), i < n → R i x H' → Same H1 H' → H1 D = none → H' D = some (.lst zs) → (∀ y H'', Same H' H'' → DaF b K (wo D (newP H1 H'')) y (dd i) → S y H'') → g x (wipe σ vs) H' fun σ2 H2 => wipe σ2 vs = wipe σ vs ∧ te σ2 H2 S)
    (q : ∀ D H' ys, H1 D = none → Same H1 H' → H' D = some (.lst ys) → DaAllF b K (wo D (newP H1 H')) ys ((List.range n).map dd) → Q (.ref D) H') : LcR J g tYes te vs σ H1 Q := by
  refine l_wq W fun D H0 n0 s0 e0 => ⟨fun i ys H => Same H1 H ∧ H D = some (.lst ys) ∧ DaAllF b K (wo D (newP H1 H)) ys ((List.range i).map dd), ⟨s0, e0, .nil⟩, fun i ys H h => hG _ h.1, fun i ys x Ha H hi h sa hr => lc_yes ?_, fun ys H h => q D H ys n0 h.1 h.2.1 h.2.2⟩
  obtain ⟨s1, e1, hy⟩ := h
  replace s1 := s1.trans sa
  replace e1 := sa _ _ e1
  replace hy := hy.same (Off.newP (.of_same sa))
  refine hs i x H (fun y H4 => LcEl D (fun ys H => Same H1 H ∧ H D = some (.lst ys) ∧ DaAllF b K (wo D (newP H1 H)) ys ((List.range (i + 1)).map dd)) y H4) D ys hi hr s1 n0 e1 fun y H'' s2 hd => ?_
  have ll : ys.length = i := by rw [hy.len]; simp
  refine i_lcEl (s2 _ _ e1) (by omega) fun H5 o5 e5 => ⟨Off.new n0 (s1.trans s2) o5, e5, ?_⟩
  rw [List.range_succ, List.map_append]
  exact ((hy.same (Off.newP (.of_same s2))).same (Off.newP o5)).app (.cons (hd.same (Off.newP o5)) .nil)
/-- .. the test or the element draws -/
theorem l_rq {J : It} {n : Nat} {G : Hp → Prop} {R : Nat → V → Hp → Prop} (W : Wq J n G R) {g : TG} {tt : TT} {te : TE} {vs : List Nat} {Q : VK} {σ : L2.St} {H1 : Hp} (r : Addr) (ok : V → Prop) (hlen : n < sizeLine) (h0 : Rok H1 r) (hG : ∀ H', Off r H1 H' → G H')
    (hs : ∀ (i : Nat) x H' (S : VK) (N : Hp → Prop), i < n → R i x H' → Off r H1 H' → Rok H' r → (∀ y H'', ok y → Off r H' H'' → Rok H'' r → S y H'') → (∀ H'', Off r H' H'' → Rok H'' r → N H'') →
      g x (wipe σ vs) H' fun σ2 H2 => wipe σ2 vs = wipe σ vs ∧ tt σ2 H2 fun b H3 => if b = true then te σ2 H3 S else N H3)
    (q : ∀ D H' ys, H1 D = none → D ≠ r → Off r H1 H' → Rok H' r → H' D = some (.lst ys) → ys.length ≤ n → (∀ y ∈ ys, ok y) → Q (.ref D) H') : LcR J g tt te vs σ H1 Q := by
  refine l_wq W fun D H0 n0 s0 e0 => ⟨fun i ys H => Off r H1 H ∧ Rok H r ∧ H D = some (.lst ys) ∧ ys.length ≤ i ∧ ∀ y ∈ ys, ok y, ⟨.of_same s0, h0.same s0, e0, Nat.le_refl _, fun y h => by cases h⟩, fun i ys H h => hG _ h.1, fun i ys x Ha H hi h sa hr => ?_, fun ys H h => q D H ys n0 (h0.ne n0) h.1 h.2.1 h.2.2.1 h.2.2.2.1 h.2.2.2.2⟩
  obtain ⟨o1, r1, e1, hl, hy⟩ := h
  have hDr : D ≠ r := h0.ne n0
  replace o1 := o1.trans (.of_same sa)
  replace r1 := r1.same sa
  replace e1 := sa _ _ e1
  refine hs i x H (fun y H4 => LcEl D (fun ys H => Off r H1 H ∧ Rok H r ∧ H D = some (.lst ys) ∧ ys.length ≤ i + 1 ∧ ∀ y ∈ ys, ok y) y H4) (fun H3 => ∃ ys, Off r H1 H3 ∧ Rok H3 r ∧ H3 D = some (.lst ys) ∧ ys.length ≤ i + 1 ∧ ∀ y ∈ ys, ok y) hi hr o1 r1 (fun y H'' hk o2 r2 => ?_) fun H'' o2 r2 => ?_
  · refine i_lcEl (Off.get o2 hDr e1) (by omega) fun H5 o5 e5 => ⟨Off.thenF o5 n0 (Off.refl _ _) (o1.trans o2), r2.off o5 hDr.symm, e5, by simp; omega, fun z hz => ?_⟩
    rcases List.mem_append.mp hz with hz | hz
    · exact hy z hz
    · rw [List.mem_singleton.mp hz]; exact hk
  · exact ⟨ys, o1.trans o2, r2, Off.get o2 hDr e1, by omega, hy⟩
/-! ### readings -/
section
variable {K : PySem.W.Frag} {σ : L2.St} {H : Hp} {Q : VK}
theorem i_iEnum {ta : TA} {R : It → Hp → Prop} (q : ta σ H fun vs H1 => ∃ a xs, vs = [.ref a] ∧ SqL K H1 a xs ∧ R (Ite K a) H1) : iEnum K ta σ H R := q
theorem i_exen {p : Addr} {xs : List V} {F : Addr → Prop} (h : SqL K H p xs) (q : F p) : ∃ a xs, [V.ref p] = [.ref a] ∧ SqL K H a xs ∧ F a := ⟨p, xs, rfl, h, q⟩
theorem i_iZip {ta : TA} {R : It → Hp → Prop} (q : ta σ H fun vs H1 => ∃ a b xs ys, vs = [.ref a, .ref b] ∧ SqL K H1 a xs ∧ SqL K H1 b ys ∧ R (Itz K a b) H1) : iZip K ta σ H R := q
theorem i_exz {p r : Addr} {xs ys : List V} {F : Addr → Addr → Prop} (h : SqL K H p xs) (k : SqL K H r ys) (q : F p r) : ∃ a b xs ys, [V.ref p, V.ref r] = [.ref a, .ref b] ∧ SqL K H a xs ∧ SqL K H b ys ∧ F a b := ⟨p, r, xs, ys, rfl, h, k, q⟩
theorem i_ez {k0 : Int} {ta : TA} {R : It → Hp → Prop} (q : ta σ H fun vs H1 => ∃ a b xs ys, vs = [.ref a, .ref b] ∧ SqL K H1 a xs ∧ SqL K H1 b ys ∧ R (Itez K k0 a b) H1) : iEnumZip K k0 ta σ H R := q
/-- list(xs), xs a list -/
def rListN (K : PySem.W.Frag) : List V → Hp → VK → Prop := fun xs H Q => ∃ p ys, xs = [.ref p] ∧ SqL K H p ys ∧ NewR H (.lst ys) Q
theorem call_listN {X : Cx} : CallR X (.type "list") (rListN X.K) := fun pins s σ H xs us Q I r ⟨p, ys, e, h, q⟩ => call_list_of pins s σ H xs us Q I r ⟨p, ys, e, .inl h, q⟩
theorem i_listN {p : Addr} {ys : List V} (h : SqL K H p ys) (q : NewR H (.lst ys) Q) : rListN K [.ref p] H Q := ⟨p, ys, rfl, h, q⟩
/-- int(b), b a bool -/
def rIntB : List V → Hp → VK → Prop := fun xs H Q => ∃ k, xs = [.bl k] ∧ Q (.int (if k then 1 else 0)) H
theorem call_intB {X : Cx} : CallR X (.type "int") rIntB := fun pins s σ H xs us Q I r h => call_int1 pins s σ H xs us Q I r (.inr h)
theorem i_intB {k : Bool} (q : Q (.int (if k then 1 else 0)) H) : rIntB [.bl k] H Q := ⟨k, rfl, q⟩
theorem i_tyL {p : Addr} {xs : List V} {B : Prop} (h : SqL K H p xs) (q : B) : tyV K "list" (.ref p) H ∧ B := ⟨.inl ⟨rfl, xs, h⟩, q⟩
theorem i_isBl {a b : Bool} (q : Q (.bl (decide (a = b))) H) : rIsB (.bl a) (.bl b) H Q := ⟨a, b, rfl, rfl, q⟩
end
/-! ### rules within a comprehension: the written part by its own name -/
section
variable {X : Cx} {K : PySem.W.Frag}
theorem ix_tupK (h : X.K = K) : IxR X (rIxT K) := h ▸ ix_tup
theorem ix_listK (h : X.K = K) : IxR X (rIxL K) := h ▸ ix_list
theorem call_lenNK (h : X.K = K) : CallR X (.builtin "len") (rLen K) := h ▸ call_lenN
theorem call_reprNK (h : X.K = K) (hr : Rg 1 X.A) : CallR X (.builtin "repr") (rRepr K) := h ▸ call_reprN hr
theorem call_isiDK (h : X.K = K) : CallR X (.builtin "isinstance") (rIsiD K) := h ▸ call_isiD
theorem op_neDK (h : X.K = K) (hu : X.A.units + 64 < cLine) : OpR X (compareOp .NotEq) (rNeD K) := h ▸ op_neD hu
theorem op_eqDK (h : X.K = K) (hu : X.A.units + 64 < cLine) : OpR X (compareOp .Eq) (rEqD K) := h ▸ op_eqD hu
theorem lit_peK {e : Expr} {d : PyData} (h : X.K = K) (l : Lit e d) : PE X e (tLit K d) := h ▸ l.pe
end
/-! ### calls by keywords alone -/
def pmL {α : Type} (pm : List Nat) (l : List α) : List α := pm.filterMap (l[·]?)
theorem vals_get {vs : List V} {us : List Value} (r : Vals vs us) : ∀ i : Nat, (vs[i]? = none ∧ us[i]? = none) ∨ ∃ x u, vs[i]? = some x ∧ us[i]? = some u ∧ RelV x u := by
  induction r with
  | nil => exact fun i => .inl ⟨rfl, rfl⟩
  | cons r _ ih => exact fun i => match i with
    | 0 => .inr ⟨_, _, rfl, rfl, r⟩
    | i + 1 => ih i
theorem pmL_vals {vs : List V} {us : List Value} (r : Vals vs us) : ∀ pm : List Nat, Vals (pmL pm vs) (pmL pm us)
  | [] => .nil
  | i :: pm => by
    have ih := pmL_vals r pm
    unfold pmL at ih ⊢
    rcases vals_get r i with ⟨h1, h2⟩ | ⟨x, u, h1, h2, h3⟩
    · rw [List.filterMap_cons, List.filterMap_cons, h1, h2]; exact ih
    · rw [List.filterMap_cons, List.filterMap_cons, h1, h2]; exact .cons h3 ih
structure KB0 (K : PySem.W.Frag) (fd : FuncData) (ps ks : List Str) (pm : List Nat) : Prop where
  to : ∀ (s : Shared) (ws : List Value), K.In s.heap → ws.length = ks.length → BindsTo s fd ⟨[], ks.zip ws⟩ (ps.zip (pmL pm ws))
theorem _root_.L2.Fun.kb0 {K : PySem.W.Frag} {x qual : Str} {st : Stmt} {f : Addr} {fd : FuncData} {ps ks : List Str} {pm : List Nat} (F : Fun K x qual st f fd)
    (h : ∀ (kV doc pm' : Value) (an : Option Addr) (cdv ct : Value) (ws : List Value), ws.length = ks.length → bindArgs (PySem.W.fnOf x qual (defArgs st) (defBody st) (defScope st) .none kV doc pm' an cdv ct) ⟨[], ks.zip ws⟩ = pure (ps.zip (pmL pm ws))) : KB0 K fd ps ks pm := by
  obtain ⟨oc, od, kV, doc, pm', an, cdv, ct, osl, rfl, lk, hcd⟩ := F.ex
  exact ⟨fun s ws _ hl => .of_eq (h kV doc pm' an cdv ct ws hl)⟩
def tCallW (sp : Sp) (n : Nat) (pm : List Nat) (E : XK) (tk : TA) : TE := fun σ H Q => tk σ H fun zs H2 => zs.length = n ∧ sp (pmL pm zs) H2 Q E
theorem pe_callW {X : Cx} {CX : CXT} {k : Nat} {f : Addr} {fd : FuncData} {ps ks : List Str} {sp : Sp} {E : XK} {x : Str} {p pos : Pos} {kws : List Keyword} {tk : TA} {pm : List Nat}
    (F : FnOk X.prog X.w X.K X.mg X.base CX k f fd ps sp) (hr : Room k X.A) (hg : Gl X x) (hm : X.mg x = some (.ref f)) (hk : PySem.W.keepIn X.K (.ref f) = true) (hb : KB0 X.K fd ps ks pm) (hx : Passes CX X E) (hkw : PK X kws tk)
    (hall : (backToKw pos (keywordEach kws X.env)).all (·.1.isSome) = true := by rfl) (hks : (backToKw pos (keywordEach kws X.env)).filterMap (·.1) = ks := by rfl) (hdb : (x == ("__debug__" : Str)) = false := by decide)
    (hpl : ((backTo pos (starEach [] X.env)).any (·.1) || (backToKw pos (keywordEach kws X.env)).any (·.1.isNone)) = false := by rfl) :
    PE X (.Call (.Name x p) [] kws pos) (tCallW sp ks.length pm E tk) := by
  refine ⟨fun pins s σ H Q I h => ?_⟩
  refine wpAny_Call_Name_kw (ld_glob I hg hm ?_ hdb)
  refine PySem.W.callWith_KW0 (h₀ := X.base) I.ok.mod.kin hk hall ?_ hpl
  refine thn (hkw.run pos pins s σ H _ I h) fun ws s2 ⟨zs, H2, I2, rz, lz, q2⟩ => ⟨I2.kIn, ?_⟩
  rw [hks]
  have r2 := pmL_vals rz pm
  have hl : (pmL pm ws).length = ps.length := by rw [← r2.length]; exact F.len _ _ _ _ q2
  refine wpAny_call (codeAny_mono (F.run X.A X.stack s2 H2 ⟨[], ks.zip ws⟩ (pmL pm ws) (pmL pm zs) Q E hr I2.env0 (hb.to s2 ws I2.kIn (by rw [← rz.length]; exact lz)) r2 q2) fun r s' hq => ?_)
  cases r with
  | error e => exact hx pins σ H2 s2 e s' I2 hq
  | ok fl =>
    cases fl with
    | ret u => exact I2.after hq
    | next => exact False.elim hq
    | brk => exact False.elim hq
    | cont => exact False.elim hq
theorem i_callW {sp : Sp} {n : Nat} {pm : List Nat} {E : XK} {tk : TA} {σ : L2.St} {H : Hp} {Q : VK} (q : tk σ H fun zs H2 => zs.length = n ∧ sp (pmL pm zs) H2 Q E) : tCallW sp n pm E tk σ H Q := q
end KX

namespace KX
open PySem PySem.Spec PyProof.Rows L2
/-! ### lists of windows -/
theorem da_list {b : Bool} {K : PySem.W.Frag} {H : Hp} {v : V} {d : PyData} (h : DaF b K H v d) (e : isi d "list" = true) : ∃ a xs ds, v = .ref a ∧ d = .list ds ∧ SqL K H a xs ∧ DaAllF b K H xs ds := by
  cases h with
  | lst hq _ ha => exact ⟨_, _, _, rfl, rfl, hq, ha⟩
  | _ => cases e
theorem da_get {b : Bool} {K : PySem.W.Frag} {H : Hp} : ∀ {xs : List V} {ds : List PyData}, DaAllF b K H xs ds → ∀ {i : Nat} {x : V}, xs[i]? = some x → ∃ d, ds[i]? = some d ∧ DaF b K H x d
  | _, _, .nil, i, x, h => by simp at h
  | _, _, .cons h r, 0, x, e => by cases e; exact ⟨_, rfl, h⟩
  | _, _, .cons h r, i + 1, x, e => da_get r (by simpa using e)
/-- the position of the first one that is no window, None for what is no list -/
def badV : PyData → Option V
  | .list ds => (ds.findIdx? fun d => !winB d).map fun i => .int (i : Nat)
  | _ => some .non
theorem badV_not {d : PyData} (h : isi d "list" = false) : badV d = some .non := by
  cases d <;> first | rfl | cases h
theorem badV_none {ds : List PyData} (h : ∀ d ∈ ds, winB d = true) : badV (.list ds) = none := by
  show (ds.findIdx? fun d => !winB d).map (fun i => V.int (i : Nat)) = none
  rw [List.findIdx?_eq_none_iff.mpr fun d hd => by rw [h d hd]; rfl]; rfl
theorem badV_at {ds : List PyData} {i : Nat} {d : PyData} (hj : ∀ j, j < i → ∀ d, ds[j]? = some d → winB d = true) (hd : ds[i]? = some d) (h : winB d = false) : badV (.list ds) = some (.int i) := by
  obtain ⟨hi, e⟩ := List.getElem?_eq_some_iff.mp hd
  have : ds.findIdx? (fun d => !winB d) = some i := by
    rw [List.findIdx?_eq_some_iff_getElem]
    refine ⟨hi, by rw [e, h]; rfl, fun j hji => ?_⟩
    have hl : j < ds.length := Nat.lt_trans hji hi
    rw [hj j hji _ (List.getElem?_eq_getElem hl)]; decide
  show (ds.findIdx? fun d => !winB d).map (fun i => V.int (i : Nat)) = _
  rw [this]; rfl
theorem badV_all {ds : List PyData} (h : badV (.list ds) = none) : ∀ d ∈ ds, winB d = true := by
  replace h : (ds.findIdx? fun d => !winB d).map (fun i => V.int (i : Nat)) = none := h
  have h' : ds.findIdx? (fun d => !winB d) = none := by simpa using h
  intro d hd
  have := List.findIdx?_eq_none_iff.mp h' d hd
  simpa using this
/-- a list of windows, as windows -/
theorem wins_of : ∀ {ds : List PyData}, (∀ d ∈ ds, winB d = true) → ∃ ws : List (Int × Option Int), ds = ws.map winD ∧ ∀ w ∈ ws, okW w
  | [], _ => ⟨[], rfl, by simp⟩
  | d :: ds, h => by
    obtain ⟨w, hw⟩ := Option.isSome_iff_exists.mp (show (winP d).isSome = true from h d (by simp))
    obtain ⟨e, ok⟩ := winP_some hw
    obtain ⟨ws, e2, k⟩ := wins_of (ds := ds) fun x hx => h x (List.mem_cons_of_mem _ hx)
    exact ⟨w :: ws, by rw [e, e2]; rfl, List.forall_mem_cons.mpr ⟨ok, k⟩⟩
theorem badV_wins {ws : List (Int × Option Int)} (h : ∀ w ∈ ws, okW w) : badV (.list (ws.map winD)) = none := badV_none fun d hd => by
  obtain ⟨w, hw, rfl⟩ := List.mem_map.mp hd
  unfold winB
  rw [winP_D (h w hw)]; rfl
/-- what reaches, contains, rises -/
def reachW (w : Int × Option Int) (n : Int) : Bool := match w.2 with
  | none => true
  | some h => decide (h ≥ n)
def contW (w : Int × Option Int) (n : Int) : Bool := decide (w.1 ≤ n) && reachW w n
def risesW (w u : Int × Option Int) : Bool := !decide (u.1 < w.1) && (match w.2 with
  | none => u.2.isNone
  | some h => reachW u h)
def posV : Option Nat → V
  | none => .non
  | some i => .int (i : Nat)
/-- the first fall, from place i on -/
def fallAt : Nat → (Int × Option Int) → List (Int × Option Int) → Option Nat
  | _, _, [] => none
  | i, w, u :: r => if risesW w u = true then fallAt (i + 1) u r else some i
def fallI : List (Int × Option Int) → Option Nat
  | [] => none
  | w :: r => fallAt 1 w r
def leastI (n : Int) (ws : List (Int × Option Int)) : Option Nat := ws.findIdx? fun w => reachW w n
theorem fallAt_none {i : Nat} {w : Int × Option Int} {r : List (Int × Option Int)} : fallAt i w r = none ↔ ∀ (j : Nat) a b, (w :: r)[j]? = some a → r[j]? = some b → risesW a b = true := by
  induction r generalizing i w with
  | nil => simp [fallAt]
  | cons u r ih =>
    unfold fallAt
    by_cases h : risesW w u = true
    · rw [if_pos h, ih]
      constructor
      · intro k j a b ha hb
        cases j with
        | zero => simp at ha hb; rw [← ha, ← hb]; exact h
        | succ j => exact k j a b (by simpa using ha) (by simpa using hb)
      · intro k j a b ha hb
        exact k (j + 1) a b (by simpa using ha) (by simpa using hb)
    · rw [if_neg h]
      constructor
      · intro k; cases k
      · intro k; exact absurd (k 0 w u rfl rfl) h
theorem fallAt_some {i : Nat} {w : Int × Option Int} {r : List (Int × Option Int)} {j : Nat} (hj : ∀ k, k < j → ∀ a b, (w :: r)[k]? = some a → r[k]? = some b → risesW a b = true) {a b : Int × Option Int} (ha : (w :: r)[j]? = some a) (hb : r[j]? = some b) (h : risesW a b = false) : fallAt i w r = some (i + j) := by
  induction r generalizing i w j with
  | nil => simp at hb
  | cons u r ih =>
    unfold fallAt
    cases j with
    | zero =>
      simp at ha hb
      rw [ha, hb, if_neg (by rw [h]; decide)]; rfl
    | succ j =>
      rw [if_pos (hj 0 (Nat.succ_pos _) w u rfl rfl)]
      rw [ih (j := j) (fun k hk a b ha hb => hj (k + 1) (by omega) a b (by simpa using ha) (by simpa using hb)) (by simpa using ha) (by simpa using hb)]
      congr 1; omega
theorem fallI_none {ws : List (Int × Option Int)} (h : ∀ (j : Nat) a b, ws[j]? = some a → ws[j + 1]? = some b → risesW a b = true) : fallI ws = none := by
  cases ws with
  | nil => rfl
  | cons w r => exact fallAt_none.mpr fun j a b ha hb => h j a b ha (by simpa using hb)
theorem fallI_some {ws : List (Int × Option Int)} {j : Nat} (hj : ∀ k, k < j → ∀ a b, ws[k]? = some a → ws[k + 1]? = some b → risesW a b = true) {a b : Int × Option Int} (ha : ws[j]? = some a) (hb : ws[j + 1]? = some b) (h : risesW a b = false) : fallI ws = some (1 + j) := by
  cases ws with
  | nil => simp at ha
  | cons w r => exact fallAt_some (fun k hk a b ha hb => hj k hk a b ha (by simpa using hb)) ha (by simpa using hb) h
theorem badV_list {d : PyData} (h : badV d = none) : ∃ ws : List (Int × Option Int), d = .list (ws.map winD) ∧ ∀ w ∈ ws, okW w := by
  cases d with
  | list ds =>
    obtain ⟨ws, e, k⟩ := wins_of (badV_all h)
    exact ⟨ws, by rw [e], k⟩
  | _ => cases h
theorem wins_get {ws : List (Int × Option Int)} {i : Nat} {d : PyData} (h : (ws.map winD)[i]? = some d) : ∃ w, ws[i]? = some w ∧ d = winD w := by
  rw [List.getElem?_map] at h
  cases e : ws[i]? with
  | none => rw [e] at h; cases h
  | some w => rw [e] at h; cases h; exact ⟨w, rfl, rfl⟩
theorem cutV_from {xs : List V} {i : Int} (h : 0 ≤ i) : cutV xs (some i) none = xs.drop i.toNat := by
  unfold cutV HT.sIx
  dsimp only
  rw [if_neg (by omega)]
  by_cases k : i.toNat ≤ xs.length
  · rw [List.take_of_length_le (by rw [List.length_drop]; omega)]
    congr 1; omega
  · rw [List.drop_of_length_le (by omega), List.drop_of_length_le (by omega)]; simp
theorem cutV_to {xs : List V} {i : Int} (h : 0 ≤ i) : cutV xs none (some i) = xs.take i.toNat := by
  unfold cutV HT.sIx
  dsimp only
  rw [List.drop_zero, Nat.sub_zero, if_neg (by omega)]
  by_cases k : i.toNat ≤ xs.length
  · congr 1; omega
  · rw [List.take_of_length_le (by omega), List.take_of_length_le (by omega)]
theorem leastI_some {n : Int} {ws : List (Int × Option Int)} {i : Nat} (hj : ∀ j, j < i → ∀ w, ws[j]? = some w → reachW w n = false) {w : Int × Option Int} (hw : ws[i]? = some w) (h : reachW w n = true) : leastI n ws = some i := by
  obtain ⟨hi, e⟩ := List.getElem?_eq_some_iff.mp hw
  unfold leastI
  rw [List.findIdx?_eq_some_iff_getElem]
  refine ⟨hi, by rw [e, h], fun j hji => ?_⟩
  rw [hj j hji _ (List.getElem?_eq_getElem (Nat.lt_trans hji hi))]; decide
theorem leastI_none {n : Int} {ws : List (Int × Option Int)} (hj : ∀ (j : Nat) w, ws[j]? = some w → reachW w n = false) : leastI n ws = none := by
  unfold leastI
  rw [List.findIdx?_eq_none_iff]
  intro w hw
  obtain ⟨j, hj2, rfl⟩ := List.getElem_of_mem hw
  exact hj j _ (by simp)
/-! ### a list of windows at a, apart from the law's numbers at r -/
def WLs (K : PySem.W.Frag) (H : Hp) (r a : Addr) (ws : List (Int × Option Int)) : Prop := a ≠ r ∧ ∃ xs, H a = some (.lst xs) ∧ DaAll K (wo a (wo r H)) xs (ws.map winD)
theorem wo_off {r a : Addr} {H H' : Hp} (s : Off r H H') : Same (wo a (wo r H)) (wo a (wo r H')) := Same.wo s.wo
theorem wo_off2 {r a : Addr} {H H' : Hp} (s : Off a H H') : Same (wo a (wo r H)) (wo a (wo r H')) := fun b o e => by
  by_cases h : b = a
  · have e' : wo a (wo r H) b = none := if_pos h
    rw [e'] at e; cases e
  · rw [wo_get h] at e ⊢
    by_cases k : b = r
    · have e' : wo r H b = none := if_pos k
      rw [e'] at e; cases e
    · rw [wo_get k] at e ⊢
      exact s _ _ h e
theorem WLs.off {K : PySem.W.Frag} {H H' : Hp} {r a : Addr} {ws : List (Int × Option Int)} (h : WLs K H r a ws) (s : Off r H H') : WLs K H' r a ws := by
  obtain ⟨n, xs, e, d⟩ := h
  exact ⟨n, xs, s.get n e, d.same (wo_off s)⟩
theorem WLs.da {K : PySem.W.Frag} {H : Hp} {r a : Addr} {ws : List (Int × Option Int)} (h : WLs K H r a ws) : Da K H (.ref a) (.list (ws.map winD)) := by
  obtain ⟨n, xs, e, d⟩ := h
  exact Da.lst (SqL.of e) ((d.same wo_same).same wo_same)
theorem da_set {b : Bool} {K : PySem.W.Frag} {H : Hp} {v : V} {d : PyData} (h : DaF b K H v d) : ∀ {xs : List V} {ds : List PyData}, DaAllF b K H xs ds → ∀ i : Nat, DaAllF b K H (xs.set i v) (ds.set i d)
  | _, _, .nil, _ => .nil
  | _, _, .cons _ r, 0 => .cons h r
  | _, _, .cons k r, i + 1 => .cons k (da_set h r i)
/-- one more, or another one: v a window laid anew -/
theorem da_win2 {K : PySem.W.Frag} {H : Hp} {r a p : Addr} {w : Int × Option Int} (h1 : p ≠ a) (h2 : p ≠ r) (e : H p = some (.tup [.int w.1, hiV w.2])) : Da K (wo a (wo r H)) (.ref p) (winD w) :=
  (da_winT (SqT.of (by rw [wo_get h1, wo_get h2]; exact e))).da
theorem WLs.app {K : PySem.W.Frag} {H H' : Hp} {r a : Addr} {ws : List (Int × Option Int)} {w : Int × Option Int} {v : V} {xs : List V} (h : WLs K H r a ws) (e : H a = some (.lst xs)) (o : Off a H H') (e' : H' a = some (.lst (xs ++ [v]))) (d : Da K (wo a (wo r H)) v (winD w)) : WLs K H' r a (ws ++ [w]) := by
  obtain ⟨n, xs', e2, k⟩ := h
  rw [e] at e2
  cases e2
  refine ⟨n, _, e', ?_⟩
  rw [List.map_append]
  exact (k.same (wo_off2 o)).app (.cons (d.same (wo_off2 o)) .nil)
theorem WLs.set {K : PySem.W.Frag} {H H' : Hp} {r a : Addr} {ws : List (Int × Option Int)} {w : Int × Option Int} {v : V} {xs : List V} {i : Nat} (h : WLs K H r a ws) (e : H a = some (.lst xs)) (o : Off a H H') (e' : H' a = some (.lst (xs.set i v))) (d : Da K (wo a (wo r H)) v (winD w)) : WLs K H' r a (ws.set i w) := by
  obtain ⟨n, xs', e2, k⟩ := h
  rw [e] at e2
  cases e2
  refine ⟨n, _, e', ?_⟩
  rw [List.map_set]
  exact da_set (d.same (wo_off2 o)) (k.same (wo_off2 o)) i
theorem WLs.len {K : PySem.W.Frag} {H : Hp} {r a : Addr} {ws : List (Int × Option Int)} {xs : List V} (h : WLs K H r a ws) (e : H a = some (.lst xs)) : xs.length = ws.length := by
  obtain ⟨_, xs', e2, k⟩ := h
  rw [e] at e2
  cases e2
  rw [k.len]; simp
/-! ### the law's own look -/
def topW (w : Int × Option Int) : Int := match w.2 with
  | none => 10 ^ Int.toNat 64
  | some h => h
def fallsW (w u : Int × Option Int) : Bool := decide (u.1 < w.1) || decide (topW u < topW w)
/-- what the law's numbers stay below -/
def W60 (w : Int × Option Int) : Prop := okW w ∧ w.1 < 10 ^ 60 ∧ ∀ h, w.2 = some h → h < 10 ^ 60
theorem falls_rises {w u : Int × Option Int} (hw : W60 w) (hu : W60 u) : fallsW w u = !risesW w u := by
  obtain ⟨l, o⟩ := w
  obtain ⟨l2, o2⟩ := u
  have z : (10 : Int) ^ 60 < 10 ^ Int.toNat 64 := by decide +kernel
  unfold fallsW risesW reachW topW
  have h1 := hw.2.2
  have h2 := hu.2.2
  dsimp only at h1 h2 ⊢
  generalize (10 : Int) ^ Int.toNat 64 = m at z ⊢
  cases o <;> cases o2 <;> simp
  · rename_i k
    have := h2 k rfl
    exact .inr (by omega)
  · rename_i k
    have := h1 k rfl
    omega
  · rw [← decide_not]
    congr 2
    exact propext (by omega)
theorem atI_zero {v : V} {xs : List V} : atI (v :: xs) 0 = some v := by
  unfold atI ixN
  simp
def firstI (bs : List Bool) : Option Nat := (List.range bs.length).find? fun i => bs.getD i false
theorem first_get {bs : List Bool} : atI ((((List.range bs.length).filter fun i => bs.getD i false).map fun i => V.int ((i : Nat) : Int)) ++ [V.non]) 0 = some (posV (firstI bs)) := by
  unfold firstI
  rw [← List.head?_filter]
  cases (List.range bs.length).filter fun i => bs.getD i false with
  | nil => rfl
  | cons i r => exact atI_zero
theorem firstI_some {bs : List Bool} {i : Nat} (h : bs[i]? = some true) (hj : ∀ j, j < i → ∀ b, bs[j]? = some b → b = false) : firstI bs = some i := by
  obtain ⟨hi, e⟩ := List.getElem?_eq_some_iff.mp h
  unfold firstI
  rw [List.find?_range_eq_some]
  refine ⟨by rw [List.getD_eq_getElem?_getD, h]; rfl, by simpa using hi, fun j hji => ?_⟩
  have hl : j < bs.length := Nat.lt_trans hji hi
  rw [List.getD_eq_getElem?_getD, List.getElem?_eq_getElem hl]
  have := hj j hji _ (List.getElem?_eq_getElem hl)
  simp [this]
theorem firstI_none {bs : List Bool} (hj : ∀ (j : Nat) b, bs[j]? = some b → b = false) : firstI bs = none := by
  unfold firstI
  rw [List.find?_eq_none]
  intro j hm
  have hl : j < bs.length := by simpa using hm
  rw [List.getD_eq_getElem?_getD, List.getElem?_eq_getElem hl]
  have := hj j _ (List.getElem?_eq_getElem hl)
  simp [this]
/-- the law's flags: none at the first window, then where it falls -/
def flagI (ws : List (Int × Option Int)) (i : Nat) : Bool := match ws[i]?, ws[i + 1]? with
  | some a, some b => !risesW a b
  | _, _ => false
def flagsB (ws : List (Int × Option Int)) : List Bool := false :: (List.range (ws.length - 1)).map (flagI ws)
theorem pair_of {b : Bool} {K : PySem.W.Frag} {H : Hp} {xs : List V} {ws : List (Int × Option Int)} (ha : DaAllF b K H xs (ws.map winD)) {i : Nat} {x1 x2 : V} (h1 : xs[i]? = some x1) (h2 : xs[Int.toNat 1 + i]? = some x2) :
    ∃ w1 w2, ws[i]? = some w1 ∧ ws[i + 1]? = some w2 ∧ DaF b K H x1 (winD w1) ∧ DaF b K H x2 (winD w2) ∧ flagI ws i = !risesW w1 w2 := by
  obtain ⟨d1, hd1, k1⟩ := da_get ha h1
  obtain ⟨d2, hd2, k2⟩ := da_get ha h2
  obtain ⟨w1, hw1, rfl⟩ := wins_get hd1
  obtain ⟨w2, hw2, rfl⟩ := wins_get hd2
  have i1 : Int.toNat 1 + i = i + 1 := by omega
  rw [i1] at hw2
  exact ⟨w1, w2, hw1, hw2, k1, k2, by unfold flagI; rw [hw1, hw2]⟩
theorem flags_get {ws : List (Int × Option Int)} {i : Nat} {a b : Int × Option Int} (ha : ws[i]? = some a) (hb : ws[i + 1]? = some b) : (flagsB ws)[i + 1]? = some (!risesW a b) := by
  have := (List.getElem?_eq_some_iff.mp hb).1
  unfold flagsB
  rw [List.getElem?_cons_succ, List.getElem?_map, List.getElem?_range (by omega)]
  simp [flagI, ha, hb]
theorem first_fall {ws : List (Int × Option Int)} : firstI ((flagsB ws).take ws.length) = fallI ws := by
  by_cases hall : ∀ (j : Nat) a b, ws[j]? = some a → ws[j + 1]? = some b → risesW a b = true
  · rw [fallI_none hall]
    refine firstI_none fun j c hc => ?_
    rw [List.getElem?_take] at hc
    split at hc
    · next hl =>
      cases j with
      | zero => cases hc; rfl
      | succ j =>
        have h1 : j < ws.length := by omega
        rw [flags_get (List.getElem?_eq_getElem h1) (List.getElem?_eq_getElem hl)] at hc
        cases hc
        rw [hall j _ _ (List.getElem?_eq_getElem h1) (List.getElem?_eq_getElem hl)]; rfl
    · cases hc
  · obtain ⟨j, hj, hm⟩ : ∃ j, (∃ a b, ws[j]? = some a ∧ ws[j + 1]? = some b ∧ risesW a b = false) ∧ ∀ k, k < j → ∀ a b, ws[k]? = some a → ws[k + 1]? = some b → risesW a b = true := by
      have ex : ∃ j, ∃ a b, ws[j]? = some a ∧ ws[j + 1]? = some b ∧ risesW a b = false := by
        false_or_by_contra
        rename_i hn
        refine hall fun j a b ha hb => ?_
        cases h : risesW a b with
        | true => rfl
        | false => exact absurd ⟨j, a, b, ha, hb, h⟩ hn
      obtain ⟨j, hj⟩ := ex
      induction j using Nat.strongRecOn with
      | _ j ih =>
        by_cases hk : ∃ k, k < j ∧ ∃ a b, ws[k]? = some a ∧ ws[k + 1]? = some b ∧ risesW a b = false
        · obtain ⟨k, hkj, hk⟩ := hk
          exact ih k hkj hk
        · refine ⟨j, hj, fun k hkj a b ha hb => ?_⟩
          cases h : risesW a b with
          | true => rfl
          | false => exact absurd ⟨k, hkj, a, b, ha, hb, h⟩ hk
    obtain ⟨a, b, ha, hb, h⟩ := hj
    have hl := (List.getElem?_eq_some_iff.mp hb).1
    rw [fallI_some hm ha hb h, Nat.add_comm]
    refine firstI_some ?_ fun k hk c hc => ?_
    · rw [List.getElem?_take, if_pos hl, flags_get ha hb, h]; rfl
    · rw [List.getElem?_take, if_pos (by omega)] at hc
      cases k with
      | zero => cases hc; rfl
      | succ k =>
        have h1 : k < ws.length := by omega
        have h2 : k + 1 < ws.length := by omega
        rw [flags_get (List.getElem?_eq_getElem h1) (List.getElem?_eq_getElem h2)] at hc
        cases hc
        rw [hm k (by omega) _ _ (List.getElem?_eq_getElem h1) (List.getElem?_eq_getElem h2)]; rfl
theorem first_least {ws : List (Int × Option Int)} {n : Int} : firstI (ws.map fun w => reachW w n) = leastI n ws := by
  by_cases hall : ∀ (j : Nat) w, ws[j]? = some w → reachW w n = false
  · rw [leastI_none hall]
    refine firstI_none fun j b hb => ?_
    rw [List.getElem?_map] at hb
    cases e : ws[j]? with
    | none => rw [e] at hb; cases hb
    | some w => rw [e] at hb; cases hb; exact hall j w e
  · cases hf : leastI n ws with
    | none =>
      unfold leastI at hf
      rw [List.findIdx?_eq_none_iff] at hf
      exact absurd (fun j w hw => hf w (List.mem_of_getElem? hw)) hall
    | some i =>
      unfold leastI at hf
      rw [List.findIdx?_eq_some_iff_getElem] at hf
      obtain ⟨hi, h1, h2⟩ := hf
      refine firstI_some (by rw [List.getElem?_map, List.getElem?_eq_getElem hi]; simp [h1]) fun j hj b hb => ?_
      have hl : j < ws.length := Nat.lt_trans hj hi
      rw [List.getElem?_map, List.getElem?_eq_getElem hl] at hb
      cases hb
      simpa using h2 j hj
theorem wo_new {r a p : Addr} {H G : Hp} (n : H p = none) (s : Same H G) : Same (wo a (wo r H)) (wo p (wo r G)) := fun b o e => by
  by_cases h : b = a
  · have e' : wo a (wo r H) b = none := if_pos h
    rw [e'] at e; cases e
  · rw [wo_get h] at e
    by_cases k : b = r
    · have e' : wo r H b = none := if_pos k
      rw [e'] at e; cases e
    · rw [wo_get k] at e
      rw [wo_get (ne_of_none e n), wo_get k]
      exact s _ _ e
theorem nd_win {w : Int × Option Int} : PyData.hasDict (winD w) = false := by
  obtain ⟨l, hi⟩ := w
  cases hi <;> rfl
theorem shaped_win {w : Int × Option Int} : SeqAt.shaped (winD w) = true := by
  obtain ⟨l, hi⟩ := w
  cases hi <;> (unfold SeqAt.shaped; simp [winD, hiD, PyData.canLay0, PyData.canLayAll0, PyData.depth, PyData.depthAll])
theorem lay_all : ∀ {ds : List PyData}, (∀ d ∈ ds, d.canLay0 = true) → PyData.canLayAll0 ds = true
  | [], _ => rfl
  | d :: ds, h => by
    show (PyData.canLay0 d && PyData.canLayAll0 ds) = true
    rw [h d (by simp), lay_all fun x hx => h x (List.mem_cons_of_mem _ hx)]; rfl
theorem nd_all : ∀ {ds : List PyData}, (∀ d ∈ ds, d.hasDict = false) → PyData.hasDictAll ds = false
  | [], _ => rfl
  | d :: ds, h => by
    show (PyData.hasDict d || PyData.hasDictAll ds) = false
    rw [h d (by simp), nd_all fun x hx => h x (List.mem_cons_of_mem _ hx)]; rfl
theorem shaped_list {ds : List PyData} (h : ∀ d ∈ ds, d.canLay0 = true ∧ d.depth ≤ 60) : SeqAt.shaped (.list ds) = true := by
  unfold SeqAt.shaped
  have e1 : PyData.canLay0 (.list ds) = true := lay_all fun d hd => (h d hd).1
  have e2 : PyData.depth (.list ds) ≤ 64 := by
    have := depthAll_le fun d hd => (h d hd).2
    simp only [PyData.depth]; omega
  rw [e1]
  simpa using e2
theorem shaped_wins (ws : List (Int × Option Int)) : SeqAt.shaped (.list (ws.map winD)) = true := shaped_list fun d hd => by
  obtain ⟨⟨l, o⟩, _, rfl⟩ := List.mem_map.mp hd
  refine ⟨shaped_lay shaped_win, ?_⟩
  cases o <;> simp [winD, hiD, PyData.depth, PyData.depthAll]
theorem nd_wins (ws : List (Int × Option Int)) : PyData.hasDict (.list (ws.map winD)) = false := nd_all fun d hd => by
  obtain ⟨w, _, rfl⟩ := List.mem_map.mp hd
  exact nd_win
theorem eqv_nil (ds : List PyData) : PyData.eqv (.list ds) (.list []) = ds.isEmpty := by cases ds <;> rfl
def posD : Option Nat → PyData
  | none => .none
  | some i => .int (i : Nat)
theorem da_pos {b : Bool} {K : PySem.W.Frag} {H : Hp} : ∀ o : Option Nat, DaF b K H (posV o) (posD o)
  | none => DaF.non
  | some _ => DaF.int _
theorem sh_pos2 {o : Option Nat} (h : ∀ i, o = some i → i < 100000) : Shw (.list [posD o, posD o]) := (Sh.lst (ds := [posD o, posD o]) (n := 1921) (k := 0) fun d hd => by
  simp only [List.mem_cons, List.not_mem_nil, or_false, or_self] at hd
  subst hd
  cases o with
  | none => exact Sh.non.mono (by decide) (by decide)
  | some i => exact Sh.int (Nat.lt_of_le_of_lt (Nat.log2_le_self _) (by have := h i rfl; simp only [Int.natAbs_natCast]; omega) |> fun (q : ((i : Int)).natAbs.log2 < 100000) => log2_lt_1920 (k := 200) (Nat.lt_trans (by simpa using h i rfl) (by decide : 100000 < 2 ^ 200)) (by decide) (by decide))).shw (by show 2 * 1923 + 2 ≤ _; decide) (by decide)
theorem nd_pos2 (o : Option Nat) : PyData.hasDict (.list [posD o, posD o]) = false := by cases o <;> rfl
theorem firstI_lt {bs : List Bool} {i : Nat} (h : firstI bs = some i) : i < bs.length := by
  unfold firstI at h
  rw [List.find?_range_eq_some] at h
  simpa using h.2.1
theorem winD_inj {w u : Int × Option Int} (h : winD w = winD u) : w = u := by
  obtain ⟨l, o⟩ := w
  obtain ⟨k, o2⟩ := u
  cases o <;> cases o2 <;> simp [winD, hiD] at h ⊢ <;> exact h
theorem wins_inj {ws us : List (Int × Option Int)} (h : PyData.list (ws.map winD) = .list (us.map winD)) : ws = us := by
  injection h with h
  induction ws generalizing us with
  | nil => cases us with
    | nil => rfl
    | cons _ _ => cases h
  | cons w ws ih => cases us with
    | nil => cases h
    | cons u us =>
      injection h with h1 h2
      rw [winD_inj h1, ih h2]
theorem winB_ok {w : Int × Option Int} (h : okW w) : winB (winD w) = true := by
  unfold winB
  rw [winP_D h]; rfl
theorem cutV_flags {ws : List (Int × Option Int)} {xs : List V} (h : xs.length = ws.length) : cutV ((flagsB ws).map V.bl) (some 1) (some xs.length) = ((List.range (ws.length - 1)).map (flagI ws)).map V.bl := by
  unfold cutV HT.sIx flagsB
  dsimp only
  rw [if_neg (by omega), if_neg (by omega)]
  simp only [List.map_cons, List.length_cons, List.length_map, List.length_range]
  cases ws with
  | nil => simp at h; simp [h]
  | cons w ws =>
    have h1 : xs.length = ws.length + 1 := by simpa using h
    have e1 : min (Int.toNat 1) ((w :: ws).length - 1 + 1) = 1 := by simp
    have e2 : min (Int.toNat xs.length) ((w :: ws).length - 1 + 1) = ws.length + 1 := by rw [h1]; simp
    rw [e1, e2]
    simp
    exact List.take_of_length_le (by simp)
theorem da_bools {K : PySem.W.Frag} {H : Hp} {a : Addr} {bs : List Bool} (h : H a = some (.lst (bs.map V.bl))) : DaF false K H (.ref a) (.list (bs.map PyData.bool)) := by
  refine Da.lst (SqL.of h) ?_
  clear h
  induction bs with
  | nil => exact .nil
  | cons c bs ih => exact .cons (.bl c) ih
theorem nd_bools (bs : List Bool) : PyData.hasDict (.list (bs.map PyData.bool)) = false := nd_all fun d hd => by
  obtain ⟨c, _, rfl⟩ := List.mem_map.mp hd
  rfl
theorem shaped_bools (bs : List Bool) : SeqAt.shaped (.list (bs.map PyData.bool)) = true := shaped_list fun d hd => by
  obtain ⟨c, _, rfl⟩ := List.mem_map.mp hd
  exact ⟨rfl, by simp [PyData.depth]⟩
theorem ne_of_rok {H : Hp} {r p : Addr} (h : Rok H r) (n : H p = none) : p ≠ r := h.ne n
end KX

namespace KX
open PySem PySem.Spec PyProof.Rows L2

def topS (i : Nat) : Stmt := PySem.Challenge.pw_groupsteps_k13_whole_rising_lists.main.body.getD i (.Pass ⟨0, 0, 0, 0⟩)
abbrev s_InvalidVersionx_initx : Stmt := inClass (topS 2) 0
abbrev s_InvalidWindowx_initx : Stmt := inClass (topS 3) 0
abbrev s_InvalidWindowsx_initx : Stmt := inClass (topS 4) 0
abbrev s_is_integer : Stmt := topS 6
abbrev s_is_version : Stmt := topS 7
abbrev s_require_version : Stmt := topS 8
abbrev s_is_window : Stmt := topS 10
abbrev s_require_window : Stmt := topS 11
abbrev s_require_windows : Stmt := topS 12
abbrev s_reaches : Stmt := topS 13
abbrev s_contains : Stmt := topS 14
abbrev s_rises : Stmt := topS 15
abbrev s_first_falling : Stmt := topS 16
abbrev s_least_reaching : Stmt := topS 17
abbrev s_l_rng : Stmt := topS 19
abbrev s_l_draw : Stmt := topS 20
abbrev s_l_choice : Stmt := topS 21
abbrev s_l_windows : Stmt := topS 22
abbrev s_l_top : Stmt := topS 23
abbrev s_l_falls : Stmt := topS 24
abbrev s_l_first : Stmt := topS 25
abbrev s_l_replaced : Stmt := topS 26
abbrev s_l_moved : Stmt := topS 27
abbrev s_l_list_right : Stmt := topS 28
abbrev s_law : Stmt := topS 29
theorem sc_InvalidVersionx_initx : FnScope ["self", "value"] ["self", "value"] (defScope s_InvalidVersionx_initx) := ⟨rfl, rfl, rfl, by decide +kernel, rfl, by decide +kernel, by decide +kernel⟩
theorem sc_InvalidWindowx_initx : FnScope ["self", "value"] ["self", "value"] (defScope s_InvalidWindowx_initx) := ⟨rfl, rfl, rfl, by decide +kernel, rfl, by decide +kernel, by decide +kernel⟩
theorem sc_InvalidWindowsx_initx : FnScope ["self", "position"] ["self", "position"] (defScope s_InvalidWindowsx_initx) := ⟨rfl, rfl, rfl, by decide +kernel, rfl, by decide +kernel, by decide +kernel⟩
theorem sc_is_integer : FnScope ["value"] ["value"] (defScope s_is_integer) := ⟨rfl, rfl, rfl, by decide +kernel, rfl, by decide +kernel, by decide +kernel⟩
theorem sc_is_version : FnScope ["value"] ["value"] (defScope s_is_version) := ⟨rfl, rfl, rfl, by decide +kernel, rfl, by decide +kernel, by decide +kernel⟩
theorem sc_require_version : FnScope ["value"] ["value"] (defScope s_require_version) := ⟨rfl, rfl, rfl, by decide +kernel, rfl, by decide +kernel, by decide +kernel⟩
theorem sc_is_window : FnScope ["value", "low", "high"] ["value"] (defScope s_is_window) := ⟨rfl, rfl, rfl, by decide +kernel, rfl, by decide +kernel, by decide +kernel⟩
theorem sc_require_window : FnScope ["value"] ["value"] (defScope s_require_window) := ⟨rfl, rfl, rfl, by decide +kernel, rfl, by decide +kernel, by decide +kernel⟩
theorem sc_require_windows : FnScope ["value", "position", "window"] ["value"] (defScope s_require_windows) := ⟨rfl, rfl, rfl, by decide +kernel, rfl, by decide +kernel, by decide +kernel⟩
theorem sc_reaches : FnScope ["window", "version"] ["window", "version"] (defScope s_reaches) := ⟨rfl, rfl, rfl, by decide +kernel, rfl, by decide +kernel, by decide +kernel⟩
theorem sc_contains : FnScope ["window", "version"] ["window", "version"] (defScope s_contains) := ⟨rfl, rfl, rfl, by decide +kernel, rfl, by decide +kernel, by decide +kernel⟩
theorem sc_rises : FnScope ["first", "second"] ["first", "second"] (defScope s_rises) := ⟨rfl, rfl, rfl, by decide +kernel, rfl, by decide +kernel, by decide +kernel⟩
theorem sc_first_falling : FnScope ["windows", "position", "first", "second"] ["windows"] (defScope s_first_falling) := ⟨rfl, rfl, rfl, by decide +kernel, rfl, by decide +kernel, by decide +kernel⟩
theorem sc_least_reaching : FnScope ["windows", "version", "falling", "position", "window"] ["windows", "version"] (defScope s_least_reaching) := ⟨rfl, rfl, rfl, by decide +kernel, rfl, by decide +kernel, by decide +kernel⟩
theorem sc_l_rng : FnScope ["_law_script", "_law_k", "_law_cell"] ["_law_script", "_law_k"] (defScope s_l_rng) := ⟨rfl, rfl, rfl, by decide +kernel, rfl, by decide +kernel, by decide +kernel⟩
theorem sc_l_draw : FnScope ["_law_rng_here", "_law_many", "_law_digit"] ["_law_rng_here", "_law_many"] (defScope s_l_draw) := ⟨rfl, rfl, rfl, by decide +kernel, rfl, by decide +kernel, by decide +kernel⟩
theorem sc_l_choice : FnScope ["_law_rng_here", "_law_options"] ["_law_rng_here", "_law_options"] (defScope s_l_choice) := ⟨rfl, rfl, rfl, by decide +kernel, rfl, by decide +kernel, by decide +kernel⟩
theorem sc_l_windows : FnScope ["_law_rng_here", "_law_many", "_law_loose", "_law_low", "_law_high", "_law_found", "_law_k"] ["_law_rng_here", "_law_many", "_law_loose"] (defScope s_l_windows) := ⟨rfl, rfl, rfl, by decide +kernel, rfl, by decide +kernel, by decide +kernel⟩
theorem sc_l_top : FnScope ["_law_one"] ["_law_one"] (defScope s_l_top) := ⟨rfl, rfl, rfl, by decide +kernel, rfl, by decide +kernel, by decide +kernel⟩
theorem sc_l_falls : FnScope ["_law_one", "_law_other"] ["_law_one", "_law_other"] (defScope s_l_falls) := ⟨rfl, rfl, rfl, by decide +kernel, rfl, by decide +kernel, by decide +kernel⟩
theorem sc_l_first : FnScope ["_law_flags", "_law_k", "_law_flag"] ["_law_flags"] (defScope s_l_first) := ⟨rfl, rfl, rfl, by decide +kernel, rfl, by decide +kernel, by decide +kernel⟩
theorem sc_l_replaced : FnScope ["_law_rng_here", "_law_some", "_law_found", "_law_turn", "_law_low"] ["_law_rng_here", "_law_some"] (defScope s_l_replaced) := ⟨rfl, rfl, rfl, by decide +kernel, rfl, by decide +kernel, by decide +kernel⟩
theorem sc_l_moved : FnScope ["_law_some", "_law_far", "_law_one"] ["_law_some", "_law_far"] (defScope s_l_moved) := ⟨rfl, rfl, rfl, by decide +kernel, rfl, by decide +kernel, by decide +kernel⟩
theorem sc_l_list_right : FnScope ["_law_rng_here", "_law_some", "_law_kept", "_law_flags", "_law_due", "_law_numbers", "_law_number", "_law_found", "_law_told", "_law_one", "_law_other", "_law_flag"] ["_law_rng_here", "_law_some"] (defScope s_l_list_right) := ⟨rfl, rfl, rfl, by decide +kernel, rfl, by decide +kernel, by decide +kernel⟩
theorem sc_law : FnScope ["_law_script", "_law_k", "_law_rng_here", "_law_turn", "_law_most", "_law_some", "_law_low"] ["_law_script"] (defScope s_law) := ⟨rfl, rfl, rfl, by decide +kernel, rfl, by decide +kernel, by decide +kernel⟩
/-- where the defs stand -/
structure Ad where
  f_InvalidVersionx_initx : Addr
  d_InvalidVersionx_initx : FuncData
  f_InvalidWindowx_initx : Addr
  d_InvalidWindowx_initx : FuncData
  f_InvalidWindowsx_initx : Addr
  d_InvalidWindowsx_initx : FuncData
  f_is_integer : Addr
  d_is_integer : FuncData
  f_is_version : Addr
  d_is_version : FuncData
  f_require_version : Addr
  d_require_version : FuncData
  f_is_window : Addr
  d_is_window : FuncData
  f_require_window : Addr
  d_require_window : FuncData
  f_require_windows : Addr
  d_require_windows : FuncData
  f_reaches : Addr
  d_reaches : FuncData
  f_contains : Addr
  d_contains : FuncData
  f_rises : Addr
  d_rises : FuncData
  f_first_falling : Addr
  d_first_falling : FuncData
  f_least_reaching : Addr
  d_least_reaching : FuncData
  f_l_rng : Addr
  d_l_rng : FuncData
  f_l_draw : Addr
  d_l_draw : FuncData
  f_l_choice : Addr
  d_l_choice : FuncData
  f_l_windows : Addr
  d_l_windows : FuncData
  f_l_top : Addr
  d_l_top : FuncData
  f_l_falls : Addr
  d_l_falls : FuncData
  f_l_first : Addr
  d_l_first : FuncData
  f_l_replaced : Addr
  d_l_replaced : FuncData
  f_l_moved : Addr
  d_l_moved : FuncData
  f_l_list_right : Addr
  d_l_list_right : FuncData
  f_law : Addr
  d_law : FuncData
  c_GroupError : Addr
  c_InvalidVersion : Addr
  c_InvalidWindow : Addr
  c_InvalidWindows : Addr
/-- what the top has left -/
structure Txt (K : PySem.W.Frag) (mg : Str → Option Value) (A : Ad) : Prop where
  F_InvalidVersionx_initx : Fun K "__init__" "InvalidVersion.__init__" s_InvalidVersionx_initx A.f_InvalidVersionx_initx A.d_InvalidVersionx_initx
  b_InvalidVersionx_initx : Binds K A.d_InvalidVersionx_initx ["self", "value"] []
  F_InvalidWindowx_initx : Fun K "__init__" "InvalidWindow.__init__" s_InvalidWindowx_initx A.f_InvalidWindowx_initx A.d_InvalidWindowx_initx
  b_InvalidWindowx_initx : Binds K A.d_InvalidWindowx_initx ["self", "value"] []
  F_InvalidWindowsx_initx : Fun K "__init__" "InvalidWindows.__init__" s_InvalidWindowsx_initx A.f_InvalidWindowsx_initx A.d_InvalidWindowsx_initx
  b_InvalidWindowsx_initx : Binds K A.d_InvalidWindowsx_initx ["self", "position"] []
  F_is_integer : Fun K "is_integer" "is_integer" s_is_integer A.f_is_integer A.d_is_integer
  g_is_integer : mg "is_integer" = some (.ref A.f_is_integer)
  b_is_integer : Binds K A.d_is_integer ["value"] []
  F_is_version : Fun K "is_version" "is_version" s_is_version A.f_is_version A.d_is_version
  g_is_version : mg "is_version" = some (.ref A.f_is_version)
  b_is_version : Binds K A.d_is_version ["value"] []
  F_require_version : Fun K "require_version" "require_version" s_require_version A.f_require_version A.d_require_version
  g_require_version : mg "require_version" = some (.ref A.f_require_version)
  b_require_version : Binds K A.d_require_version ["value"] []
  F_is_window : Fun K "is_window" "is_window" s_is_window A.f_is_window A.d_is_window
  g_is_window : mg "is_window" = some (.ref A.f_is_window)
  b_is_window : Binds K A.d_is_window ["value"] []
  F_require_window : Fun K "require_window" "require_window" s_require_window A.f_require_window A.d_require_window
  g_require_window : mg "require_window" = some (.ref A.f_require_window)
  b_require_window : Binds K A.d_require_window ["value"] []
  F_require_windows : Fun K "require_windows" "require_windows" s_require_windows A.f_require_windows A.d_require_windows
  g_require_windows : mg "require_windows" = some (.ref A.f_require_windows)
  b_require_windows : Binds K A.d_require_windows ["value"] []
  F_reaches : Fun K "reaches" "reaches" s_reaches A.f_reaches A.d_reaches
  g_reaches : mg "reaches" = some (.ref A.f_reaches)
  b_reaches : Binds K A.d_reaches ["window", "version"] []
  F_contains : Fun K "contains" "contains" s_contains A.f_contains A.d_contains
  g_contains : mg "contains" = some (.ref A.f_contains)
  b_contains : Binds K A.d_contains ["window", "version"] []
  F_rises : Fun K "rises" "rises" s_rises A.f_rises A.d_rises
  g_rises : mg "rises" = some (.ref A.f_rises)
  b_rises : Binds K A.d_rises ["first", "second"] []
  F_first_falling : Fun K "first_falling" "first_falling" s_first_falling A.f_first_falling A.d_first_falling
  g_first_falling : mg "first_falling" = some (.ref A.f_first_falling)
  b_first_falling : Binds K A.d_first_falling ["windows"] []
  F_least_reaching : Fun K "least_reaching" "least_reaching" s_least_reaching A.f_least_reaching A.d_least_reaching
  g_least_reaching : mg "least_reaching" = some (.ref A.f_least_reaching)
  b_least_reaching : Binds K A.d_least_reaching ["windows", "version"] []
  F_l_rng : Fun K "_law_rng" "_law_rng" s_l_rng A.f_l_rng A.d_l_rng
  g_l_rng : mg "_law_rng" = some (.ref A.f_l_rng)
  b_l_rng : Binds K A.d_l_rng ["_law_script", "_law_k"] []
  F_l_draw : Fun K "_law_draw" "_law_draw" s_l_draw A.f_l_draw A.d_l_draw
  g_l_draw : mg "_law_draw" = some (.ref A.f_l_draw)
  b_l_draw : Binds K A.d_l_draw ["_law_rng_here", "_law_many"] []
  F_l_choice : Fun K "_law_choice" "_law_choice" s_l_choice A.f_l_choice A.d_l_choice
  g_l_choice : mg "_law_choice" = some (.ref A.f_l_choice)
  b_l_choice : Binds K A.d_l_choice ["_law_rng_here", "_law_options"] []
  F_l_windows : Fun K "_law_windows" "_law_windows" s_l_windows A.f_l_windows A.d_l_windows
  g_l_windows : mg "_law_windows" = some (.ref A.f_l_windows)
  b_l_windows : Binds K A.d_l_windows ["_law_rng_here", "_law_many", "_law_loose"] []
  F_l_top : Fun K "_law_top" "_law_top" s_l_top A.f_l_top A.d_l_top
  g_l_top : mg "_law_top" = some (.ref A.f_l_top)
  b_l_top : Binds K A.d_l_top ["_law_one"] []
  F_l_falls : Fun K "_law_falls" "_law_falls" s_l_falls A.f_l_falls A.d_l_falls
  g_l_falls : mg "_law_falls" = some (.ref A.f_l_falls)
  b_l_falls : Binds K A.d_l_falls ["_law_one", "_law_other"] []
  F_l_first : Fun K "_law_first" "_law_first" s_l_first A.f_l_first A.d_l_first
  g_l_first : mg "_law_first" = some (.ref A.f_l_first)
  b_l_first : Binds K A.d_l_first ["_law_flags"] []
  F_l_replaced : Fun K "_law_replaced" "_law_replaced" s_l_replaced A.f_l_replaced A.d_l_replaced
  g_l_replaced : mg "_law_replaced" = some (.ref A.f_l_replaced)
  b_l_replaced : Binds K A.d_l_replaced ["_law_rng_here", "_law_some"] []
  F_l_moved : Fun K "_law_moved" "_law_moved" s_l_moved A.f_l_moved A.d_l_moved
  g_l_moved : mg "_law_moved" = some (.ref A.f_l_moved)
  b_l_moved : Binds K A.d_l_moved ["_law_some", "_law_far"] []
  F_l_list_right : Fun K "_law_list_right" "_law_list_right" s_l_list_right A.f_l_list_right A.d_l_list_right
  g_l_list_right : mg "_law_list_right" = some (.ref A.f_l_list_right)
  b_l_list_right : Binds K A.d_l_list_right ["_law_rng_here", "_law_some"] []
  F_law : Fun K "law" "law" s_law A.f_law A.d_law
  g_law : mg "law" = some (.ref A.f_law)
  b_law : Binds K A.d_law ["_law_script"] []
  kb_contains_version_window : KB0 K A.d_contains ["window", "version"] ["version", "window"] [1, 0]
  kb_first_falling_windows : KB0 K A.d_first_falling ["windows"] ["windows"] [0]
  kb_least_reaching_version_windows : KB0 K A.d_least_reaching ["windows", "version"] ["version", "windows"] [1, 0]
  kb_rises_first_second : KB0 K A.d_rises ["first", "second"] ["first", "second"] [0, 1]
  m_abs : mg "abs" = none
  m_bool : mg "bool" = none
  m_divmod : mg "divmod" = none
  m_enumerate : mg "enumerate" = none
  m_int : mg "int" = none
  m_isinstance : mg "isinstance" = none
  m_len : mg "len" = none
  m_list : mg "list" = none
  m_max : mg "max" = none
  m_min : mg "min" = none
  m_range : mg "range" = none
  m_repr : mg "repr" = none
  m_tuple : mg "tuple" = none
  m_zip : mg "zip" = none
  gX_GroupError : mg "GroupError" = some (.ref A.c_GroupError)
  gX_InvalidVersion : mg "InvalidVersion" = some (.ref A.c_InvalidVersion)
  gX_InvalidWindow : mg "InvalidWindow" = some (.ref A.c_InvalidWindow)
  gX_InvalidWindows : mg "InvalidWindows" = some (.ref A.c_InvalidWindows)
  cg : ClassGet K
  EX_GroupError : ExT K "ValueError.__new__" "ValueError.__init__" (tailOf "ValueError") A.c_GroupError
  EX_InvalidVersion : ExT K "ValueError.__new__" "ValueError.__init__" (tailOf "ValueError") A.c_InvalidVersion
  EX_InvalidWindow : ExT K "ValueError.__new__" "ValueError.__init__" (tailOf "ValueError") A.c_InvalidWindow
  EX_InvalidWindows : ExT K "ValueError.__new__" "ValueError.__init__" (tailOf "ValueError") A.c_InvalidWindows
  IB_GroupError : InitB K "ValueError.__init__" A.c_GroupError
  iC_InvalidVersion : PySem.W.findIn K (.ref A.c_InvalidVersion) "__init__" = some (some (.ref A.f_InvalidVersionx_initx))
  tI_InvalidVersion : PySem.W.typeIn K (.ref A.f_InvalidVersionx_initx) = some (.type "function")
  tk_InvalidVersion_value : PySem.W.takerIn K A.c_InvalidVersion "value" = some none
  nf_InvalidVersion_value : PySem.W.findIn K (.ref A.c_InvalidVersion) "value" = some none
  iC_InvalidWindow : PySem.W.findIn K (.ref A.c_InvalidWindow) "__init__" = some (some (.ref A.f_InvalidWindowx_initx))
  tI_InvalidWindow : PySem.W.typeIn K (.ref A.f_InvalidWindowx_initx) = some (.type "function")
  tk_InvalidWindow_value : PySem.W.takerIn K A.c_InvalidWindow "value" = some none
  nf_InvalidWindow_value : PySem.W.findIn K (.ref A.c_InvalidWindow) "value" = some none
  iC_InvalidWindows : PySem.W.findIn K (.ref A.c_InvalidWindows) "__init__" = some (some (.ref A.f_InvalidWindowsx_initx))
  tI_InvalidWindows : PySem.W.typeIn K (.ref A.f_InvalidWindowsx_initx) = some (.type "function")
  tk_InvalidWindows_position : PySem.W.takerIn K A.c_InvalidWindows "position" = some none
  nf_InvalidWindows_position : PySem.W.findIn K (.ref A.c_InvalidWindows) "position" = some none
theorem i_tt {c : Bool} {A B : Prop} (h : c = true) (x : A) : if c = true then A else B := by rw [if_pos h]; exact x
theorem i_ff {c : Bool} {A B : Prop} (h : c = false) (x : B) : if c = true then A else B := by rw [h, if_neg Bool.false_ne_true]; exact x
theorem atN_lt {xs : List Nat} {d : Int} (h0 : 0 ≤ d) (h1 : d < xs.length) : ∃ v, v ∈ xs ∧ atI xs d = some v := by
  have hd : d.toNat < xs.length := by omega
  refine ⟨xs[d.toNat], List.getElem_mem hd, ?_⟩
  unfold atI ixN
  rw [if_pos h0, if_pos h1]
  simp [hd]
theorem strs_of {n : Nat} : ∀ {ys : List V}, (∀ (i : Nat) y, ys[i]? = some y → ∃ z, y = .str z ∧ okS z n) → ∃ zs : List Str, ys = zs.map V.str ∧ ∀ z ∈ zs, okS z n
  | [], _ => ⟨[], rfl, by simp⟩
  | y :: ys, h => by
    obtain ⟨z, rfl, hz⟩ := h 0 y rfl
    obtain ⟨zs, rfl, hzs⟩ := strs_of (ys := ys) (fun i y e => h (i + 1) y e)
    exact ⟨z :: zs, rfl, List.forall_mem_cons.mpr ⟨hz, hzs⟩⟩
theorem sum_le_of {b : Nat} : ∀ zs : List Str, (∀ z ∈ zs, z.length ≤ b) → (zs.map (·.length)).sum ≤ zs.length * b
  | [], _ => by simp
  | z :: zs, h => by
    have h1 := h z (by simp)
    have ih := sum_le_of zs fun x hx => h x (List.mem_cons_of_mem _ hx)
    simp only [List.map_cons, List.sum_cons, List.length_cons, Nat.add_mul, Nat.one_mul]
    omega

local macro_rules | `(tactic| walk_at "kp") => `(tactic| first
  | with_reducible exact Kp.refl
  | with_reducible exact Kp.thenS (by assumption) (by walk_at "kp")
  | with_reducible exact Kp.thenO (by assumption) (by walk_at "ne") (by walk_at "kp")
  | fail)
local macro_rules | `(tactic| walk_at "hq") => `(tactic| first
  | assumption
  | with_reducible exact Kp.get (by assumption) (by walk_at "kp")
  | fail)
local macro_rules | `(tactic| walk_at "hg") => `(tactic| first
  | walk_at "hq"
  | exact upd_same
  | with_reducible exact (upd_ne (by walk_at "ne")).trans (by walk_at "hg")
  | with_reducible exact Same.get (by assumption) (by walk_at "hg")
  | with_reducible exact Off.get (by assumption) (by walk_at "ne") (by walk_at "hg")
  | fail)
local macro_rules | `(tactic| walk_at "ne") => `(tactic| first
  | assumption
  | (apply Ne.symm; assumption)
  | exact Rok.ne' (by assumption) (by walk_at "rok")
  | exact (Rok.ne' (by assumption) (by walk_at "rok")).symm
  | exact ne_some (by assumption) (by walk_at "hg")
  | exact (ne_some (by assumption) (by walk_at "hg")).symm
  | fail)
local macro_rules | `(tactic| walk_at "rok") => `(tactic| first
  | assumption
  | with_reducible exact Rok.kp (by assumption) (by walk_at "kp")
  | with_reducible exact Rok.same (by assumption) (by walk_at "rok")
  | fail)
local macro_rules | `(tactic| walk_at "sq") => `(tactic| first
  | assumption
  | exact Same.seq (by assumption) (by assumption)
  | with_reducible exact SqL.of (by walk_at "hg")
  | with_reducible exact SqT.of (by walk_at "hg")
  | fail)
local macro_rules | `(tactic| walk_at "dac") => `(tactic| first
  | assumption
  | exact DaF.same (by assumption) (by walk_at "dac")
  | fail)
local macro_rules | `(tactic| walk_at "da") => `(tactic| first
  | exact (DaF.non : DaS _ _ _ _)
  | exact (DaF.bl _ : DaS _ _ _ _)
  | exact (DaF.int _ : DaS _ _ _ _)
  | exact (DaF.str _ : DaS _ _ _ _)
  | exact DaF.non
  | exact DaF.bl _
  | exact DaF.int _
  | exact DaF.str _
  | walk_at "dac"
  | with_reducible exact DaF.lst (SqL.of (by walk_at "hq")) (fun _ => by assumption) (by walk_at "das")
  | with_reducible exact Da.lst (SqL.of (by walk_at "hq")) (by walk_at "das")
  | with_reducible exact DaF.tup (SqT.of (by walk_at "hq")) (by walk_at "das")
  | with_reducible exact DaF.dic (Rd.of (by walk_at "hq")) (by walk_at "dak")
  | fail)
local macro_rules | `(tactic| walk_at "das") => `(tactic| first
  | assumption
  | exact DaAllF.nil
  | exact DaAllF.cons (by walk_at "da") (by walk_at "das")
  | fail)
local macro_rules | `(tactic| walk_at "dak") => `(tactic| first
  | assumption
  | exact DaKvF.nil
  | exact DaKvF.cons (by walk_at "da") (by walk_at "dak")
  | fail)
local macro_rules | `(tactic| walk_at "shw") => `(tactic| first
  | assumption
  | exact shw_b2 _ _
  | exact ⟨by decide +kernel, by decide +kernel, by decide +kernel⟩
  | fail)
local macro_rules | `(tactic| walk_at "nod") => `(tactic| first
  | exact .inl rfl
  | exact .inr rfl
  | assumption
  | exact .inr (by assumption)
  | fail)
local macro_rules | `(tactic| walk_at "okd") => `(tactic| first
  | assumption
  | exact okd_of (by decide +kernel)
  | fail)
local macro_rules | `(tactic| walk_at "off") => `(tactic| first
  | assumption
  | exact Off.refl _ _
  | exact Same.refl _
  | with_reducible exact Same.thenS (by assumption) (by walk_at "off")
  | with_reducible exact Off.thenS (by assumption) (by walk_at "off")
  | with_reducible exact Off.thenO (by assumption) (by walk_at "off")
  | with_reducible exact Same.thenF (by assumption) (by assumption) (by walk_at "off") (by walk_at "off")
  | with_reducible exact Off.thenF (by assumption) (by assumption) (by walk_at "off") (by walk_at "off")
  | fail)
local macro_rules | `(tactic| walk_at "side") => `(tactic| first
  | assumption
  | omega
  | decide
  | (simp only [List.length_cons, List.length_nil]; decide)
  | exact ⟨by omega, by omega⟩
  | exact ⟨by omega, PyProof.noPylong_of_log2 (by first | assumption | decide)⟩
  | exact .inl ⟨by omega, by omega⟩
  | exact .inr ⟨by omega, by omega⟩
  | exact ⟨by decide, by decide, by decide⟩
  | exact ⟨by decide, by decide, by omega⟩
  | fail)
local macro_rules | `(tactic| walk_at "st") => `(tactic| first
  | with_reducible refine i_seq ?_
  | with_reducible refine i_bi ?_
  | with_reducible refine i_raise ?_
  | with_reducible refine i_callX ?_
  | with_reducible refine i_tryN ?_
  | with_reducible refine i_isNon ?_
  | with_reducible refine i_isNotNon ?_
  | ((with_reducible refine' i_split ?h ?z ?_); (case h => rfl); (case z => walk_at "side"))
  | with_reducible refine i_find ?_
  | ((with_reducible refine i_strI ?h ?_); (case h => walk_at "side"))
  | with_reducible refine i_fmt ?_
  | ((with_reducible refine i_fmS ?h ?_); (case h => walk_at "side"))
  | ((with_reducible refine i_fmI ?h ?_); (case h => walk_at "side"))
  | with_reducible refine i_jn ?_
  | with_reducible refine i_js0 ?_
  | with_reducible refine i_js1 ?_
  | ((with_reducible refine i_jsR ?h ?_); (case h => walk_at "side"))
  | with_reducible refine i_revS ?_
  | ((with_reducible refine i_exrev ?h ?_); (case h => walk_at "side"))
  | with_reducible refine i_revL ?_
  | ((with_reducible refine' i_exrevL ?h ?_); (case h => walk_at "sq"))
  | with_reducible refine i_par3 ?_
  | with_reducible refine i_ex3 ?_
  | with_reducible refine i_stB ?_
  | with_reducible refine i_mk0 ?_
  | with_reducible refine i_asg ?_
  | with_reducible refine i_c ?_
  | ((with_reducible refine' i_var ?h ?_); (case h => rfl))
  | with_reducible refine i_op ?_
  | with_reducible refine i_cons ?_
  | with_reducible refine i_nil ?_
  | ((with_reducible refine' i_gName ?h ?_); (case h => rfl))
  | with_reducible refine i_rI0 ?_
  | ((with_reducible refine i_rI ?h ?_); (case h => walk_at "side"))
  | with_reducible refine i_test ?_
  | with_reducible refine i_exbl ?_
  | with_reducible refine i_exint ?_
  | with_reducible refine i_exs ?_
  | with_reducible refine i_ret ?_
  | with_reducible refine i_next ?_
  | with_reducible refine i_ifS ?_
  | ((with_reducible refine' i_rIxL ?h ?e ?_); (case h => walk_at "sq"); (case e => first | assumption | rfl))
  | ((with_reducible refine' i_rIxT ?h ?e ?_); (case h => walk_at "sq"); (case e => first | assumption | rfl))
  | ((with_reducible refine' i_rIxS ?h ?e ?_); (case h => walk_at "side"); (case e => first | assumption | rfl))
  | with_reducible refine i_un ?_
  | with_reducible refine i_rU ?_
  | ((with_reducible refine i_rEqSame ?h ?_); (case h => rfl))
  | ((with_reducible refine i_rNeSame ?h ?_); (case h => rfl))
  | ((with_reducible refine i_rEq ?h ?_); (case h => rfl))
  | ((with_reducible refine i_rNe ?h ?_); (case h => rfl))
  | with_reducible refine i_tB ?_
  | with_reducible refine i_and ?_
  | with_reducible refine i_or ?_
  | with_reducible refine i_not ?_
  | with_reducible refine i_andV ?_
  | with_reducible refine i_orV ?_
  | with_reducible refine i_notV ?_
  | with_reducible refine i_if ?_
  | with_reducible refine i_chain ?_
  | with_reducible refine i_drop ?_
  | with_reducible refine i_retN ?_
  | with_reducible refine i_par ?_
  | with_reducible refine i_ex2 ?_
  | ((with_reducible refine' i_aug ?h ?_); (case h => rfl))
  | with_reducible refine i_gNil ?_
  | with_reducible refine i_gCons ?_
  | ((with_reducible refine' i_gTup ?h ?e ?_); (case h => walk_at "sq"); (case e => rfl))
  | with_reducible refine i_gSub ?_
  | ((with_reducible refine' i_rSetL ?h ?e ?_); (case h => walk_at "hg"); (case e => first | assumption | rfl))
  | with_reducible refine i_tup ?_
  | with_reducible refine i_lst ?_
  | with_reducible refine i_lstN ?_
  | with_reducible refine i_newDK ?_
  | with_reducible refine i_disp ?_
  | with_reducible refine i_pairs0 ?_
  | with_reducible refine i_pairs1 ?_
  | with_reducible refine i_call ?_
  | with_reducible refine i_cb ?_
  | with_reducible refine i_bm ?_
  | with_reducible refine i_m1 ?_
  | with_reducible refine i_m0 ?_
  | ((with_reducible refine' i_rAppend ?h ?e ?_); (case h => walk_at "hg"); (case e => walk_at "side"))
  | ((with_reducible refine i_rSlS ?h ?_); (case h => walk_at "side"))
  | ((with_reducible refine' i_rSlL ?h ?_); (case h => walk_at "sq"))
  | with_reducible refine i_sl ?_
  | with_reducible refine i_noPart ?_
  | with_reducible refine i_part ?_
  | with_reducible refine i_rng1 ?_
  | with_reducible refine i_iList ?_
  | with_reducible refine i_iStr ?_
  | with_reducible refine i_iEnum ?_
  | with_reducible refine i_iZip ?_
  | with_reducible refine i_ez ?_
  | ((with_reducible refine' i_exen ?h ?_); (case h => walk_at "sq"))
  | ((with_reducible refine' i_exz ?h ?k ?_); (case h => walk_at "sq"); (case k => walk_at "sq"))
  | ((with_reducible refine' i_listN ?h ?_); (case h => walk_at "sq"))
  | with_reducible refine i_intB ?_
  | ((with_reducible refine' i_tyL ?h ?_); (case h => walk_at "sq"))
  | with_reducible refine i_isBl ?_
  | ((with_reducible refine i_callW ?_))
  | ((with_reducible refine i_exrng ?h1 ?h2 ?_); (case h1 => walk_at "side"); (case h2 => walk_at "side"))
  | ((with_reducible refine' i_exl ?h ?_); (case h => walk_at "sq"))
  | with_reducible refine i_for ?_
  | with_reducible refine i_lc ?_
  | with_reducible refine i_yes ?_
  | with_reducible refine i_iteT ?_
  | with_reducible refine i_iteF ?_
  | ((with_reducible refine i_divmod ?h ?_); (case h => walk_at "side"))
  | ((with_reducible refine' i_isi ?h ?e ?_); (case h => walk_at "da"); (case e => decide))
  | ((with_reducible refine i_lenS ?h ?_); (case h => walk_at "side"))
  | ((with_reducible refine' i_lenL ?h ?_); (case h => walk_at "sq"))
  | ((with_reducible refine' i_lenT ?h ?_); (case h => walk_at "sq"))
  | ((with_reducible refine' i_repr ?h ?n ?e ?_); (case h => walk_at "da"); (case n => walk_at "nod"); (case e => walk_at "shw"))
  | ((with_reducible refine' i_rCat ?h ?e ?z ?_); (case h => walk_at "hg"); (case e => walk_at "hg"); (case z => walk_at "side"))
  | ((with_reducible refine i_rCatS ?h ?_); (case h => walk_at "side"))
  | with_reducible refine i_exstr ?_
  | ((with_reducible refine' i_join ?h ?z ?_); (case h => walk_at "sq"); (case z => walk_at "side"))
  | with_reducible refine i_abs ?_
  | with_reducible refine i_max ?_
  | with_reducible refine i_min ?_
  | ((with_reducible refine' i_rAll ?h ?_); (case h => walk_at "sq"))
  | ((with_reducible refine' i_lcEl ?h ?e ?_); (case h => walk_at "hg"); (case e => walk_at "side"))
  | with_reducible refine ⟨_, _, rfl, rfl, ?_⟩
  | with_reducible refine ⟨_, _, rfl, ?_⟩
  | with_reducible refine ⟨_, rfl, ?_⟩
  | with_reducible refine And.intro rfl ?_
  | ((with_reducible refine And.intro ?h ?_); (case h => walk_at "side"))
  | fail)

/-! ### promises -/
def sp_l_draw : Sp := fun vs H Q _ => ∃ r m, vs = [.ref r, .int m] ∧ 0 < m ∧ m.natAbs.log2 < 9000 ∧ Rok H r ∧
  ∀ d H', 0 ≤ d → d < m → Rok H' r → Off r H H' → Q (.int d) H'
def sp_l_rng (K : PySem.W.Frag) : Sp := fun vs H Q _ => ∃ (s : Addr) (ns : List Int) (k : Int), vs = [.ref s, .int k] ∧ SqL K H s (ns.map V.int) ∧ 0 ≤ k ∧ k < 100 ∧ ns.length ≤ 63 ∧
  ∀ r H', H r = none → Rok H' r → Same H H' → Q (.ref r) H'
section
variable {P : Program} {w : World} {K : PySem.W.Frag} {mg : Str → Option Value} {base : Heap} {A : Ad}
theorem ok_l_draw (T : Txt K mg A) : Fg P w K mg base CX0 1 A.f_l_draw A.d_l_draw ["_law_rng_here", "_law_many"] sp_l_draw := by
  refine ok_g T.F_l_draw sc_l_draw (fun vs H Q E h => ?_) (fun cdv Ar outer s H vs Q E hr h => ?_)
  · obtain ⟨r, m, rfl, _⟩ := h; rfl
  · obtain ⟨r, m, rfl, m0, mb, ⟨a, b, hR, b0, b1⟩, q⟩ := h
    refine ⟨_, (pss_cons (ps_if (pt_cmpR op_gt (pe_ix ix_list (pv 0) pe_int (fun _ _ => rfl)) pe_int (nomark _))
(pss_cons (ps_asg (pe_callB call_divmodN (by rfl) T.m_divmod (by decide +kernel) (pa_cons (pe_ix ix_list (pv 0) pe_int (fun _ _ => rfl)) (pa_cons (pv 1) pa_nil))) (pg_tup rfl (pgs_cons (pg_sub (pv 0) pe_int set_list) (pgs_cons (pg_name (i := 2) sc_l_draw.nd rfl (.inl rfl)) pgs_nil))))
(pss_one (ps_ret (pv 2))))
pss_nil)
(pss_cons (ps_asg (pe_op op_mod (pe_op op_add (pe_op op_mul (pe_ix ix_list (pv 0) pe_int (fun _ _ => rfl)) pe_int) pe_int) pe_int) (pg_sub (pv 0) pe_int set_list))
(pss_one (ps_ret (pe_op op_mod (pe_op op_fdiv (pe_op op_mod (pe_op op_mul (pe_ix ix_list (pv 0) pe_int (fun _ _ => rfl)) (pe_ix ix_list (pv 0) pe_int (fun _ _ => rfl))) pe_int) pe_int) (pv 1)))))), ?_⟩
    repeat (walk_at "st")
    refine ite2 (fun e => ?_) (fun e => ?_)
    · repeat (walk_at "st")
      refine i_new fun p1 G1 n1 s1 e1 => ?_
      repeat (walk_at "st")
      refine i_put fun G2 o2 e2 => ?_
      repeat (walk_at "st")
      exact q _ _ (Int.emod_nonneg _ (by omega)) (Int.emod_lt_of_pos _ m0) ⟨_, _, e2, b0, b1⟩ (Off.trans (.of_same s1) o2)
    · repeat (walk_at "st")
      refine i_put fun G1 o1 e1 => ?_
      repeat (walk_at "st")
      exact q _ _ (Int.emod_nonneg _ (by omega)) (Int.emod_lt_of_pos _ m0) ⟨_, _, e1, Int.emod_nonneg _ (by decide), Int.lt_trans (Int.emod_lt_of_pos _ (by decide)) (by decide)⟩ o1
theorem atI_lt {xs : List V} {d : Int} (h0 : 0 ≤ d) (h1 : d < xs.length) : ∃ v, v ∈ xs ∧ atI xs d = some v := by
  have hd : d.toNat < xs.length := by omega
  refine ⟨xs[d.toNat], List.getElem_mem hd, ?_⟩
  unfold atI ixN
  rw [if_pos h0, if_pos h1]
  simp [hd]
theorem ok_l_rng (T : Txt K mg A) : Fg P w K mg base CX0 1 A.f_l_rng A.d_l_rng ["_law_script", "_law_k"] (sp_l_rng K) := by
  refine ok_g T.F_l_rng sc_l_rng (fun vs H Q E h => ?_) (fun cdv Ar outer s H vs Q E hr h => ?_)
  · obtain ⟨_, _, _, rfl, _⟩ := h; rfl
  · obtain ⟨s, ns, k, rfl, hS, k0, k1, hl, q⟩ := h
    refine ⟨_, (pss_cons (ps_set (i := 2) sc_l_rng.nd rfl (.inl rfl) (pe_ifExp (pt_cmpR op_lt (pv 1) (pe_callB call_lenN (by rfl) T.m_len (by decide +kernel) (pa_cons (pv 0) pa_nil)) (nomark _)) (pe_callB call_abs (by rfl) T.m_abs (by decide +kernel) (pa_cons (pe_ix ix_list (pv 0) (pv 1) (fun _ _ => rfl)) pa_nil)) pe_int))
(pss_one (ps_ret (pe_lst (pa_cons (pe_callB (call_max2 rfl) (by rfl) T.m_max (by decide +kernel) (pa_cons pe_int (pa_cons (pe_op op_sub (pv 2) (pe_op op_pow pe_int pe_int)) pa_nil))) (pa_cons (pe_op op_add (pe_op op_mod (pe_op op_pow (pe_op op_add (pe_op op_add (pe_op op_mod (pv 2) pe_int) (pe_op op_mul pe_int (pv 1))) pe_int) pe_int) pe_int) pe_int) pa_nil)))))), ?_⟩
    repeat (walk_at "st")
    refine i_ite (fun e => ?_) (fun e => ?_)
    · have e' : k < ns.length := by simpa using of_decide_eq_true e
      obtain ⟨v, hv, ev⟩ := atI_lt (xs := ns.map V.int) k0 (by simpa using e')
      obtain ⟨z, _, rfl⟩ := List.mem_map.mp hv
      repeat (walk_at "st")
      refine i_new fun p1 G1 n1 s1 e1 => ?_
      repeat (walk_at "st")
      exact q _ _ n1 ⟨_, _, e1, by omega, by omega⟩ s1
    · repeat (walk_at "st")
      refine i_new fun p1 G1 n1 s1 e1 => ?_
      repeat (walk_at "st")
      exact q _ _ n1 ⟨_, _, e1, by omega, by omega⟩ s1

/-! ### errors -/
theorem ok_InvalidVersionx_initx (T : Txt K mg A) : FnOk P w K mg base CX0 1 A.f_InvalidVersionx_initx A.d_InvalidVersionx_initx ["self", "value"] (spI A.c_InvalidVersion ["value"]) := by
  refine T.F_InvalidVersionx_initx.ok sc_InvalidVersionx_initx (fun vs H Q E h => ?_) (fun cdv Ar outer s H vs Q E hr h => ?_)
  · obtain ⟨_, ws, rfl, hl, _⟩ := h; simp [hl]
  · obtain ⟨a, ws, rfl, hl, e, q⟩ := h
    obtain ⟨v, rfl⟩ := List.length_eq_one_iff.mp hl
    refine ⟨_, (pss_cons (ps_expr (pe_binit (by rfl) T.gX_GroupError baseV T.IB_GroupError (pa_cons (pv 0) (pa_cons (pv 1) pa_nil))))
(pss_one (ps_stB (newId := "ValueError.__new__") (initId := "ValueError.__init__") (bmB := tailOf "ValueError") (pv 0) (pv 1)))), ?_⟩
    repeat (walk_at "st")
    refine ⟨a, _, [v], rfl, by show 1 ≤ 1000; decide, T.EX_InvalidVersion.o, e, ?_⟩
    repeat (walk_at "st")
    refine ⟨a, _, rfl, T.EX_InvalidVersion.o, T.tk_InvalidVersion_value, .inl ⟨e, fun dx n ne => ?_⟩⟩
    exact q dx _ n ne upd_same (by rw [upd_ne ne]; exact upd_same) fun b n1 n2 => by rw [upd_ne n1, upd_ne n2]
theorem ok_InvalidWindowx_initx (T : Txt K mg A) : FnOk P w K mg base CX0 1 A.f_InvalidWindowx_initx A.d_InvalidWindowx_initx ["self", "value"] (spI A.c_InvalidWindow ["value"]) := by
  refine T.F_InvalidWindowx_initx.ok sc_InvalidWindowx_initx (fun vs H Q E h => ?_) (fun cdv Ar outer s H vs Q E hr h => ?_)
  · obtain ⟨_, ws, rfl, hl, _⟩ := h; simp [hl]
  · obtain ⟨a, ws, rfl, hl, e, q⟩ := h
    obtain ⟨v, rfl⟩ := List.length_eq_one_iff.mp hl
    refine ⟨_, (pss_cons (ps_expr (pe_binit (by rfl) T.gX_GroupError baseV T.IB_GroupError (pa_cons (pv 0) (pa_cons (pv 1) pa_nil))))
(pss_one (ps_stB (newId := "ValueError.__new__") (initId := "ValueError.__init__") (bmB := tailOf "ValueError") (pv 0) (pv 1)))), ?_⟩
    repeat (walk_at "st")
    refine ⟨a, _, [v], rfl, by show 1 ≤ 1000; decide, T.EX_InvalidWindow.o, e, ?_⟩
    repeat (walk_at "st")
    refine ⟨a, _, rfl, T.EX_InvalidWindow.o, T.tk_InvalidWindow_value, .inl ⟨e, fun dx n ne => ?_⟩⟩
    exact q dx _ n ne upd_same (by rw [upd_ne ne]; exact upd_same) fun b n1 n2 => by rw [upd_ne n1, upd_ne n2]
theorem ok_InvalidWindowsx_initx (T : Txt K mg A) : FnOk P w K mg base CX0 1 A.f_InvalidWindowsx_initx A.d_InvalidWindowsx_initx ["self", "position"] (spI A.c_InvalidWindows ["position"]) := by
  refine T.F_InvalidWindowsx_initx.ok sc_InvalidWindowsx_initx (fun vs H Q E h => ?_) (fun cdv Ar outer s H vs Q E hr h => ?_)
  · obtain ⟨_, ws, rfl, hl, _⟩ := h; simp [hl]
  · obtain ⟨a, ws, rfl, hl, e, q⟩ := h
    obtain ⟨v, rfl⟩ := List.length_eq_one_iff.mp hl
    refine ⟨_, (pss_cons (ps_expr (pe_binit (by rfl) T.gX_GroupError baseV T.IB_GroupError (pa_cons (pv 0) (pa_cons (pv 1) pa_nil))))
(pss_one (ps_stB (newId := "ValueError.__new__") (initId := "ValueError.__init__") (bmB := tailOf "ValueError") (pv 0) (pv 1)))), ?_⟩
    repeat (walk_at "st")
    refine ⟨a, _, [v], rfl, by show 1 ≤ 1000; decide, T.EX_InvalidWindows.o, e, ?_⟩
    repeat (walk_at "st")
    refine ⟨a, _, rfl, T.EX_InvalidWindows.o, T.tk_InvalidWindows_position, .inl ⟨e, fun dx n ne => ?_⟩⟩
    exact q dx _ n ne upd_same (by rw [upd_ne ne]; exact upd_same) fun b n1 n2 => by rw [upd_ne n1, upd_ne n2]
end
end KX

namespace KX
open PySem PySem.Spec PyProof.Rows L2

local macro_rules | `(tactic| walk_at "kp") => `(tactic| first
  | with_reducible exact Kp.refl
  | with_reducible exact Kp.thenS (by assumption) (by walk_at "kp")
  | with_reducible exact Kp.thenO (by assumption) (by walk_at "ne") (by walk_at "kp")
  | fail)
local macro_rules | `(tactic| walk_at "hq") => `(tactic| first
  | assumption
  | with_reducible exact Kp.get (by assumption) (by walk_at "kp")
  | fail)
local macro_rules | `(tactic| walk_at "hg") => `(tactic| first
  | walk_at "hq"
  | exact upd_same
  | with_reducible exact (upd_ne (by walk_at "ne")).trans (by walk_at "hg")
  | with_reducible exact Same.get (by assumption) (by walk_at "hg")
  | with_reducible exact Off.get (by assumption) (by walk_at "ne") (by walk_at "hg")
  | fail)
local macro_rules | `(tactic| walk_at "ne") => `(tactic| first
  | assumption
  | (apply Ne.symm; assumption)
  | exact Rok.ne' (by assumption) (by walk_at "rok")
  | exact (Rok.ne' (by assumption) (by walk_at "rok")).symm
  | exact ne_some (by assumption) (by walk_at "hg")
  | exact (ne_some (by assumption) (by walk_at "hg")).symm
  | fail)
local macro_rules | `(tactic| walk_at "rok") => `(tactic| first
  | assumption
  | with_reducible exact Rok.kp (by assumption) (by walk_at "kp")
  | with_reducible exact Rok.same (by assumption) (by walk_at "rok")
  | fail)
local macro_rules | `(tactic| walk_at "sq") => `(tactic| first
  | assumption
  | exact Same.seq (by assumption) (by assumption)
  | with_reducible exact SqL.of (by walk_at "hg")
  | with_reducible exact SqT.of (by walk_at "hg")
  | fail)
local macro_rules | `(tactic| walk_at "dac") => `(tactic| first
  | assumption
  | exact DaF.same (by assumption) (by walk_at "dac")
  | fail)
local macro_rules | `(tactic| walk_at "da") => `(tactic| first
  | exact (DaF.non : DaS _ _ _ _)
  | exact (DaF.bl _ : DaS _ _ _ _)
  | exact (DaF.int _ : DaS _ _ _ _)
  | exact (DaF.str _ : DaS _ _ _ _)
  | exact DaF.non
  | exact DaF.bl _
  | exact DaF.int _
  | exact DaF.str _
  | walk_at "dac"
  | with_reducible exact DaF.lst (SqL.of (by walk_at "hq")) (fun _ => by assumption) (by walk_at "das")
  | with_reducible exact Da.lst (SqL.of (by walk_at "hq")) (by walk_at "das")
  | with_reducible exact DaF.tup (SqT.of (by walk_at "hq")) (by walk_at "das")
  | with_reducible exact DaF.dic (Rd.of (by walk_at "hq")) (by walk_at "dak")
  | fail)
local macro_rules | `(tactic| walk_at "das") => `(tactic| first
  | assumption
  | exact DaAllF.nil
  | exact DaAllF.cons (by walk_at "da") (by walk_at "das")
  | fail)
local macro_rules | `(tactic| walk_at "dak") => `(tactic| first
  | assumption
  | exact DaKvF.nil
  | exact DaKvF.cons (by walk_at "da") (by walk_at "dak")
  | fail)
local macro_rules | `(tactic| walk_at "shw") => `(tactic| first
  | assumption
  | exact shw_b2 _ _
  | exact ⟨by decide +kernel, by decide +kernel, by decide +kernel⟩
  | fail)
local macro_rules | `(tactic| walk_at "nod") => `(tactic| first
  | exact .inl rfl
  | exact .inr rfl
  | assumption
  | exact .inr (by assumption)
  | fail)
local macro_rules | `(tactic| walk_at "okd") => `(tactic| first
  | assumption
  | exact okd_of (by decide +kernel)
  | fail)
local macro_rules | `(tactic| walk_at "off") => `(tactic| first
  | assumption
  | exact Off.refl _ _
  | exact Same.refl _
  | with_reducible exact Same.thenS (by assumption) (by walk_at "off")
  | with_reducible exact Off.thenS (by assumption) (by walk_at "off")
  | with_reducible exact Off.thenO (by assumption) (by walk_at "off")
  | with_reducible exact Same.thenF (by assumption) (by assumption) (by walk_at "off") (by walk_at "off")
  | with_reducible exact Off.thenF (by assumption) (by assumption) (by walk_at "off") (by walk_at "off")
  | fail)
local macro_rules | `(tactic| walk_at "side") => `(tactic| first
  | assumption
  | omega
  | decide
  | (simp only [List.length_cons, List.length_nil]; decide)
  | exact ⟨by omega, by omega⟩
  | exact ⟨by omega, PyProof.noPylong_of_log2 (by first | assumption | decide)⟩
  | exact .inl ⟨by omega, by omega⟩
  | exact .inr ⟨by omega, by omega⟩
  | exact ⟨by decide, by decide, by decide⟩
  | exact ⟨by decide, by decide, by omega⟩
  | fail)
local macro_rules | `(tactic| walk_at "st") => `(tactic| first
  | with_reducible refine i_seq ?_
  | with_reducible refine i_bi ?_
  | with_reducible refine i_raise ?_
  | with_reducible refine i_callX ?_
  | with_reducible refine i_tryN ?_
  | with_reducible refine i_isNon ?_
  | with_reducible refine i_isNotNon ?_
  | ((with_reducible refine' i_split ?h ?z ?_); (case h => rfl); (case z => walk_at "side"))
  | with_reducible refine i_find ?_
  | ((with_reducible refine i_strI ?h ?_); (case h => walk_at "side"))
  | with_reducible refine i_fmt ?_
  | ((with_reducible refine i_fmS ?h ?_); (case h => walk_at "side"))
  | ((with_reducible refine i_fmI ?h ?_); (case h => walk_at "side"))
  | with_reducible refine i_jn ?_
  | with_reducible refine i_js0 ?_
  | with_reducible refine i_js1 ?_
  | ((with_reducible refine i_jsR ?h ?_); (case h => walk_at "side"))
  | with_reducible refine i_revS ?_
  | ((with_reducible refine i_exrev ?h ?_); (case h => walk_at "side"))
  | with_reducible refine i_revL ?_
  | ((with_reducible refine' i_exrevL ?h ?_); (case h => walk_at "sq"))
  | with_reducible refine i_par3 ?_
  | with_reducible refine i_ex3 ?_
  | with_reducible refine i_stB ?_
  | with_reducible refine i_mk0 ?_
  | with_reducible refine i_asg ?_
  | with_reducible refine i_c ?_
  | ((with_reducible refine' i_var ?h ?_); (case h => rfl))
  | with_reducible refine i_op ?_
  | with_reducible refine i_cons ?_
  | with_reducible refine i_nil ?_
  | ((with_reducible refine' i_gName ?h ?_); (case h => rfl))
  | with_reducible refine i_rI0 ?_
  | ((with_reducible refine i_rI ?h ?_); (case h => walk_at "side"))
  | with_reducible refine i_test ?_
  | with_reducible refine i_exbl ?_
  | with_reducible refine i_exint ?_
  | with_reducible refine i_exs ?_
  | with_reducible refine i_ret ?_
  | with_reducible refine i_next ?_
  | with_reducible refine i_ifS ?_
  | ((with_reducible refine' i_rIxL ?h ?e ?_); (case h => walk_at "sq"); (case e => first | assumption | rfl))
  | ((with_reducible refine' i_rIxT ?h ?e ?_); (case h => walk_at "sq"); (case e => first | assumption | rfl))
  | ((with_reducible refine' i_rIxS ?h ?e ?_); (case h => walk_at "side"); (case e => first | assumption | rfl))
  | with_reducible refine i_un ?_
  | with_reducible refine i_rU ?_
  | ((with_reducible refine i_rEqSame ?h ?_); (case h => rfl))
  | ((with_reducible refine i_rNeSame ?h ?_); (case h => rfl))
  | ((with_reducible refine i_rEq ?h ?_); (case h => rfl))
  | ((with_reducible refine i_rNe ?h ?_); (case h => rfl))
  | with_reducible refine i_tB ?_
  | with_reducible refine i_and ?_
  | with_reducible refine i_or ?_
  | with_reducible refine i_not ?_
  | with_reducible refine i_andV ?_
  | with_reducible refine i_orV ?_
  | with_reducible refine i_notV ?_
  | with_reducible refine i_if ?_
  | with_reducible refine i_chain ?_
  | with_reducible refine i_drop ?_
  | with_reducible refine i_retN ?_
  | with_reducible refine i_par ?_
  | with_reducible refine i_ex2 ?_
  | ((with_reducible refine' i_aug ?h ?_); (case h => rfl))
  | with_reducible refine i_gNil ?_
  | with_reducible refine i_gCons ?_
  | ((with_reducible refine' i_gTup ?h ?e ?_); (case h => walk_at "sq"); (case e => rfl))
  | with_reducible refine i_gSub ?_
  | ((with_reducible refine' i_rSetL ?h ?e ?_); (case h => walk_at "hg"); (case e => first | assumption | rfl))
  | with_reducible refine i_tup ?_
  | with_reducible refine i_lst ?_
  | with_reducible refine i_lstN ?_
  | with_reducible refine i_newDK ?_
  | with_reducible refine i_disp ?_
  | with_reducible refine i_pairs0 ?_
  | with_reducible refine i_pairs1 ?_
  | with_reducible refine i_call ?_
  | with_reducible refine i_cb ?_
  | with_reducible refine i_bm ?_
  | with_reducible refine i_m1 ?_
  | with_reducible refine i_m0 ?_
  | ((with_reducible refine' i_rAppend ?h ?e ?_); (case h => walk_at "hg"); (case e => walk_at "side"))
  | ((with_reducible refine i_rSlS ?h ?_); (case h => walk_at "side"))
  | ((with_reducible refine' i_rSlL ?h ?_); (case h => walk_at "sq"))
  | with_reducible refine i_sl ?_
  | with_reducible refine i_noPart ?_
  | with_reducible refine i_part ?_
  | with_reducible refine i_rng1 ?_
  | with_reducible refine i_iList ?_
  | with_reducible refine i_iStr ?_
  | with_reducible refine i_iEnum ?_
  | with_reducible refine i_iZip ?_
  | with_reducible refine i_ez ?_
  | ((with_reducible refine' i_exen ?h ?_); (case h => walk_at "sq"))
  | ((with_reducible refine' i_exz ?h ?k ?_); (case h => walk_at "sq"); (case k => walk_at "sq"))
  | ((with_reducible refine' i_listN ?h ?_); (case h => walk_at "sq"))
  | with_reducible refine i_intB ?_
  | ((with_reducible refine' i_tyL ?h ?_); (case h => walk_at "sq"))
  | with_reducible refine i_isBl ?_
  | ((with_reducible refine i_callW ?_))
  | ((with_reducible refine i_exrng ?h1 ?h2 ?_); (case h1 => walk_at "side"); (case h2 => walk_at "side"))
  | ((with_reducible refine' i_exl ?h ?_); (case h => walk_at "sq"))
  | with_reducible refine i_for ?_
  | with_reducible refine i_lc ?_
  | with_reducible refine i_yes ?_
  | with_reducible refine i_iteT ?_
  | with_reducible refine i_iteF ?_
  | ((with_reducible refine i_divmod ?h ?_); (case h => walk_at "side"))
  | ((with_reducible refine' i_isi ?h ?e ?_); (case h => walk_at "da"); (case e => decide))
  | ((with_reducible refine i_lenS ?h ?_); (case h => walk_at "side"))
  | ((with_reducible refine' i_lenL ?h ?_); (case h => walk_at "sq"))
  | ((with_reducible refine' i_lenT ?h ?_); (case h => walk_at "sq"))
  | ((with_reducible refine' i_repr ?h ?n ?e ?_); (case h => walk_at "da"); (case n => walk_at "nod"); (case e => walk_at "shw"))
  | ((with_reducible refine' i_rCat ?h ?e ?z ?_); (case h => walk_at "hg"); (case e => walk_at "hg"); (case z => walk_at "side"))
  | ((with_reducible refine i_rCatS ?h ?_); (case h => walk_at "side"))
  | with_reducible refine i_exstr ?_
  | ((with_reducible refine' i_join ?h ?z ?_); (case h => walk_at "sq"); (case z => walk_at "side"))
  | with_reducible refine i_abs ?_
  | with_reducible refine i_max ?_
  | with_reducible refine i_min ?_
  | ((with_reducible refine' i_rAll ?h ?_); (case h => walk_at "sq"))
  | ((with_reducible refine' i_lcEl ?h ?e ?_); (case h => walk_at "hg"); (case e => walk_at "side"))
  | with_reducible refine ⟨_, _, rfl, rfl, ?_⟩
  | with_reducible refine ⟨_, _, rfl, ?_⟩
  | with_reducible refine ⟨_, rfl, ?_⟩
  | with_reducible refine And.intro rfl ?_
  | ((with_reducible refine And.intro ?h ?_); (case h => walk_at "side"))
  | fail)

section
variable {P : Program} {w : World} {K : PySem.W.Frag} {mg : Str → Option Value} {base : Heap} {A : Ad}
theorem ok_is_integer (T : Txt K mg A) : FnOk P w K mg base CX0 1 A.f_is_integer A.d_is_integer ["value"] (sp_dat K fun d => isi d "int" && !isi d "bool") := by
  refine T.F_is_integer.ok sc_is_integer (fun vs H Q E h => ?_) (fun cdv Ar outer s H vs Q E hr h => ?_)
  · obtain ⟨_, _, rfl, _⟩ := h; rfl
  · obtain ⟨v, d, rfl, hd, q⟩ := h
    refine ⟨_, (pss_one (ps_ret (pe_and (pe_callB call_isiD (by rfl) T.m_isinstance (by decide +kernel) (pa_cons (pv 0) (pa_cons (pe_bltn (v := .ty "int") rfl T.m_int (by decide +kernel) rfl) pa_nil))) (pe_one (pe_not (pe_callB call_isiD (by rfl) T.m_isinstance (by decide +kernel) (pa_cons (pv 0) (pa_cons (pe_bltn (v := .ty "bool") rfl T.m_bool (by decide +kernel) rfl) pa_nil)))))))), ?_⟩
    have q' := q _ (Same.refl H)
    dsimp only at q'
    repeat (walk_at "st")
    refine i_ite (fun e => ?_) (fun e => ?_)
    · repeat (walk_at "st")
      rw [e] at q'; exact q'
    · rw [e] at q'; exact q'
theorem ok_is_version (T : Txt K mg A) (G_is_integer : FnOk P w K mg base CX0 1 A.f_is_integer A.d_is_integer ["value"] (sp_dat K fun d => isi d "int" && !isi d "bool")) : FnOk P w K mg base CX0 2 A.f_is_version A.d_is_version ["value"] (sp_dat K verD) := by
  refine T.F_is_version.ok sc_is_version (fun vs H Q E h => ?_) (fun cdv Ar outer s H vs Q E hr h => ?_)
  · obtain ⟨_, _, rfl, _⟩ := h; rfl
  · obtain ⟨v, d, rfl, hd, q⟩ := h
    refine ⟨_, (pss_one (ps_ret (pe_and (L2.pe_call G_is_integer (hr.mono (by decide)) (by rfl) T.g_is_integer T.F_is_integer.kp T.b_is_integer .nil pass0 (pa_cons (pv 0) pa_nil)) (pe_one (pe_cmpR op_ge (pv 0) pe_int (nomark _)))))), ?_⟩
    repeat (walk_at "st")
    refine ⟨_, _, rfl, hd, fun G1 s1 => ?_⟩
    repeat (walk_at "st")
    have q' := q _ s1
    cases hd with
    | int i => 
      refine i_iteT ?_
      repeat (walk_at "st")
      exact q'
    | _ => exact q'
theorem ok_is_window (T : Txt K mg A) (G_is_version : FnOk P w K mg base CX0 2 A.f_is_version A.d_is_version ["value"] (sp_dat K verD)) : FnOk P w K mg base CX0 3 A.f_is_window A.d_is_window ["value"] (sp_dat K winB) := by
  refine T.F_is_window.ok sc_is_window (fun vs H Q E h => ?_) (fun cdv Ar outer s H vs Q E hr h => ?_)
  · obtain ⟨_, _, rfl, _⟩ := h; rfl
  · obtain ⟨v, d, rfl, hd, q⟩ := h
    refine ⟨_, (pss_cons (ps_if (PW.pt (pw_or (pt_not (pt_val (pe_callB call_isiD (by rfl) T.m_isinstance (by decide +kernel) (pa_cons (pv 0) (pa_cons (pe_bltn (v := .ty "tuple") rfl T.m_tuple (by decide +kernel) rfl) pa_nil))))) (pw_or (pt_cmpR op_ne (pe_callB call_lenN (by rfl) T.m_len (by decide +kernel) (pa_cons (pv 0) pa_nil)) pe_int (nomark _)) (pw_or1 (pt_not (pt_val (L2.pe_call G_is_version (hr.mono (by decide)) (by rfl) T.g_is_version T.F_is_version.kp T.b_is_version .nil pass0 (pa_cons (pe_ix ix_tup (pv 0) pe_int (fun _ _ => rfl)) pa_nil))))))))
(pss_one (ps_ret pe_bl))
pss_nil)
(pss_cons (ps_asg (pv 0) (pg_tup rfl (pgs_cons (pg_name (i := 1) sc_is_window.nd rfl (.inl rfl)) (pgs_cons (pg_name (i := 2) sc_is_window.nd rfl (.inl rfl)) pgs_nil))))
(pss_one (ps_ret (pe_or (pe_cmpR op_isNN (pv 2) pe_non (nomark _)) (pe_one (pe_and (L2.pe_call G_is_version (hr.mono (by decide)) (by rfl) T.g_is_version T.F_is_version.kp T.b_is_version .nil pass0 (pa_cons (pv 2) pa_nil)) (pe_one (pe_cmpR op_ge (pv 2) (pv 1) (nomark _)))))))))), ?_⟩
    repeat (walk_at "st")
    cases hd with
    | tup hq ha =>
      rename_i xs ds
      have len := ha.len
      refine i_ff (by rfl) ?_
      repeat (walk_at "st")
      by_cases hl : ds.length = 2
      · refine i_ff (by rw [len, hl]; rfl) ?_
        repeat (walk_at "st")
        obtain ⟨x1, x2, d1, d2, rfl, rfl, h1, h2⟩ := da_two ha hl
        repeat (walk_at "st")
        refine ⟨_, _, rfl, h1, fun G1 s1 => ?_⟩
        have hq' := same_seqT s1 hq
        repeat (walk_at "st")
        refine i_ite (fun e => ?_) (fun e => ?_)
        · repeat (walk_at "st")
          have e' : verD d1 = false := by simpa using e
          have q' := q _ s1
          rw [winB_two, e'] at q'
          exact q'
        · have e' : verD d1 = true := by simpa using e
          obtain ⟨i, rfl, rfl, i0⟩ := verD_int h1 e'
          repeat (walk_at "st")
          refine i_ite (fun c => ?_) (fun c => ?_)
          · repeat (walk_at "st")
            have q' := q _ s1
            rw [winB_two, e', ← da_non h2, c] at q'
            exact q'
          · repeat (walk_at "st")
            refine ⟨_, _, rfl, h2.same s1, fun G2 s2 => ?_⟩
            repeat (walk_at "st")
            refine i_ite (fun c2 => ?_) (fun c2 => ?_)
            · obtain ⟨k, rfl, rfl, k0⟩ := verD_int h2 c2
              repeat (walk_at "st")
              have q' := q _ (s1.trans s2)
              rw [winB_two, e', c2] at q'
              exact q'
            · have q' := q _ (s1.trans s2)
              rw [winB_two, e', ← da_non h2, c, c2] at q'
              exact q'
      · refine i_tt (by rw [len]; simp; omega) ?_
        repeat (walk_at "st")
        have q' := q _ (Same.refl H)
        rw [winB_len hl] at q'
        exact q'
    | _ =>
      refine i_tt (by rfl) ?_
      repeat (walk_at "st")
      exact q _ (Same.refl _)
theorem ok_require_window (T : Txt K mg A) (G_is_window : FnOk P w K mg base CX0 3 A.f_is_window A.d_is_window ["value"] (sp_dat K winB)) (G_InvalidWindowx_initx : FnOk P w K mg base CX0 1 A.f_InvalidWindowx_initx A.d_InvalidWindowx_initx ["self", "value"] (spI A.c_InvalidWindow ["value"])) :
    FnOk P w K mg base (L2.CX P w) 4 A.f_require_window A.d_require_window ["value"] (sp_req K winB A.c_InvalidWindow "value") := by
  refine T.F_require_window.okX sc_require_window (fun vs H Q E h => ?_) (fun cdv Ar outer s H vs Q E hr h => ?_)
  · obtain ⟨_, _, rfl, _⟩ := h; rfl
  · obtain ⟨v, d, rfl, hd, qy, qn⟩ := h
    refine ⟨_, (pss_one (ps_if (pt_not (pt_val (L2.pe_call G_is_window (hr.mono (by decide)) (by rfl) T.g_is_window T.F_is_window.kp T.b_is_window .nil pass0 (pa_cons (pv 0) pa_nil))))
(pss_one (ps_raiseN rfl (takes_of rfl rfl rfl rfl) (pmk_B T.EX_InvalidWindow.o T.iC_InvalidWindow T.tI_InvalidWindow G_InvalidWindowx_initx (hr.mono (by decide)) T.b_InvalidWindowx_initx pass0 (by rfl) T.gX_InvalidWindow (pa_cons (pv 0) pa_nil))))
pss_nil)), ?_⟩
    repeat (walk_at "st")
    refine ⟨_, _, rfl, hd, fun G1 s1 => ?_⟩
    repeat (walk_at "st")
    refine i_ite (fun e => ?_) (fun e => ?_)
    · have e' : winB d = false := by simpa using e
      repeat (walk_at "st")
      refine i_mkR rfl (by decide) fun c H2 hc s2 ec => ?_
      exact qn e' c H2 (none_of s1 hc) (s1.trans s2) ec
    · have e' : winB d = true := by simpa using e
      repeat (walk_at "st")
      exact qy e' _ s1

theorem ok_require_version (T : Txt K mg A) (G_is_version : FnOk P w K mg base CX0 2 A.f_is_version A.d_is_version ["value"] (sp_dat K verD)) (G_InvalidVersionx_initx : FnOk P w K mg base CX0 1 A.f_InvalidVersionx_initx A.d_InvalidVersionx_initx ["self", "value"] (spI A.c_InvalidVersion ["value"])) :
    FnOk P w K mg base (L2.CX P w) 3 A.f_require_version A.d_require_version ["value"] (sp_req K verD A.c_InvalidVersion "value") := by
  refine T.F_require_version.okX sc_require_version (fun vs H Q E h => ?_) (fun cdv Ar outer s H vs Q E hr h => ?_)
  · obtain ⟨_, _, rfl, _⟩ := h; rfl
  · obtain ⟨v, d, rfl, hd, qy, qn⟩ := h
    refine ⟨_, (pss_one (ps_if (pt_not (pt_val (L2.pe_call G_is_version (hr.mono (by decide)) (by rfl) T.g_is_version T.F_is_version.kp T.b_is_version .nil pass0 (pa_cons (pv 0) pa_nil))))
(pss_one (ps_raiseN rfl (takes_of rfl rfl rfl rfl) (pmk_B T.EX_InvalidVersion.o T.iC_InvalidVersion T.tI_InvalidVersion G_InvalidVersionx_initx (hr.mono (by decide)) T.b_InvalidVersionx_initx pass0 (by rfl) T.gX_InvalidVersion (pa_cons (pv 0) pa_nil))))
pss_nil)), ?_⟩
    repeat (walk_at "st")
    refine ⟨_, _, rfl, hd, fun G1 s1 => ?_⟩
    repeat (walk_at "st")
    refine i_ite (fun e => ?_) (fun e => ?_)
    · have e' : verD d = false := by simpa using e
      repeat (walk_at "st")
      refine i_mkR rfl (by decide) fun c H2 hc s2 ec => ?_
      exact qn e' c H2 (none_of s1 hc) (s1.trans s2) ec
    · have e' : verD d = true := by simpa using e
      repeat (walk_at "st")
      exact qy e' _ s1
def sp_rws (K : PySem.W.Frag) (C : Addr) : Sp := fun vs H Q E => ∃ v d, vs = [v] ∧ Da K H v d ∧ (badV d = none → ∀ H', Same H H' → Q .non H') ∧
  (∀ o, badV d = some o → ∀ c H', H c = none → Same H H' → H' c = some (.xd [("position", o)]) → E (.ref C) (some c) H')
theorem ok_require_windows (T : Txt K mg A) (G_is_window : FnOk P w K mg base CX0 3 A.f_is_window A.d_is_window ["value"] (sp_dat K winB)) (G_InvalidWindowsx_initx : FnOk P w K mg base CX0 1 A.f_InvalidWindowsx_initx A.d_InvalidWindowsx_initx ["self", "position"] (spI A.c_InvalidWindows ["position"])) :
    FnOk P w K mg base (L2.CX P w) 4 A.f_require_windows A.d_require_windows ["value"] (sp_rws K A.c_InvalidWindows) := by
  refine T.F_require_windows.okX sc_require_windows (fun vs H Q E h => ?_) (fun cdv Ar outer s H vs Q E hr h => ?_)
  · obtain ⟨_, _, rfl, _⟩ := h; rfl
  · obtain ⟨v, d, rfl, hd, qy, qn⟩ := h
    refine ⟨_, (pss_cons (ps_if (pt_not (pt_val (pe_callB call_isiD (by rfl) T.m_isinstance (by decide +kernel) (pa_cons (pv 0) (pa_cons (pe_bltn (v := .ty "list") rfl T.m_list (by decide +kernel) rfl) pa_nil)))))
(pss_one (ps_raiseN rfl (takes_of rfl rfl rfl rfl) (pmk_B T.EX_InvalidWindows.o T.iC_InvalidWindows T.tI_InvalidWindows G_InvalidWindowsx_initx (hr.mono (by decide)) T.b_InvalidWindowsx_initx pass0 (by rfl) T.gX_InvalidWindows (pa_cons pe_non pa_nil))))
pss_nil)
(pss_one (ps_for (passes_of rfl) rfl (pi_enum (by rfl) T.m_enumerate (pa_cons (pv 0) pa_nil)) (pg_tup rfl (pgs_cons (pg_name (i := 1) sc_require_windows.nd rfl (.inl rfl)) (pgs_cons (pg_name (i := 2) sc_require_windows.nd rfl (.inl rfl)) pgs_nil)))
(pss_one (ps_if (pt_not (pt_val (L2.pe_call G_is_window (hr.mono (by decide)) (by rfl) T.g_is_window T.F_is_window.kp T.b_is_window .nil pass0 (pa_cons (pv 2) pa_nil))))
(pss_one (ps_raiseN rfl (takes_of rfl rfl rfl rfl) (pmk_B T.EX_InvalidWindows.o T.iC_InvalidWindows T.tI_InvalidWindows G_InvalidWindowsx_initx (hr.mono (by decide)) T.b_InvalidWindowsx_initx pass0 (by rfl) T.gX_InvalidWindows (pa_cons (pv 1) pa_nil))))
pss_nil))))), ?_⟩
    repeat (walk_at "st")
    refine i_ite (fun e => ?_) (fun e => ?_)
    · have e' : isi d "list" = false := by simpa using e
      repeat (walk_at "st")
      refine i_mkR rfl (by decide) fun c H2 hc s2 ec => ?_
      exact qn .non (badV_not e') c H2 hc s2 ec
    · have e' : isi d "list" = true := by simpa using e
      obtain ⟨a, xs, ds, rfl, rfl, hq, ha⟩ := da_list hd e'
      repeat (walk_at "st")
      refine f_wq wq_enum (fun i σ H' => Same H H' ∧ (∀ j, j < i → ∀ d, ds[j]? = some d → winB d = true) ∧ ∃ y1 y2, σ = [some (.ref a), y1, y2]) ⟨Same.refl _, fun j hj => absurd hj (Nat.not_lt_zero _), _, _, rfl⟩ (fun i σ H' h => Same.seq h.1 hq) (fun i x σ H0 H1 hi h sa hr => ?_) (fun σ H' h => ?_)
      · obtain ⟨s1, hj, y1, y2, rfl⟩ := h
        obtain ⟨p, x1, x2, rfl, eT, e1, e2⟩ := hr
        cases e1
        obtain ⟨d2, hd2, k2⟩ := da_get ha e2
        have s1' := s1.trans sa
        repeat (walk_at "st")
        refine ⟨_, _, rfl, k2.same s1', fun G1 s2 => ?_⟩
        repeat (walk_at "st")
        refine i_ite (fun e => ?_) (fun e => ?_)
        · have e' : winB d2 = false := by simpa using e
          repeat (walk_at "st")
          refine i_mkR rfl (by decide) fun c H2 hc s3 ec => ?_
          exact qn (.int i) (badV_at hj hd2 e') c H2 (none_of (s1'.trans s2) hc) ((s1'.trans s2).trans s3) ec
        · have e' : winB d2 = true := by simpa using e
          repeat (walk_at "st")
          refine ⟨s1'.trans s2, fun j hj2 d hd => ?_, _, _, rfl⟩
          rcases Nat.lt_succ_iff_lt_or_eq.mp hj2 with z | z
          · exact hj j z d hd
          · rw [z, hd2] at hd; cases hd; exact e'
      · obtain ⟨s1, hj, y1, y2, rfl⟩ := h
        repeat (walk_at "st")
        refine qy (badV_none fun d hd => ?_) _ s1
        obtain ⟨j, hj2, rfl⟩ := List.getElem_of_mem hd
        exact hj j (by rw [ha.len]; exact hj2) _ (by simp)
def sp_reach (K : PySem.W.Frag) : Sp := fun vs H Q _ => ∃ v w n, vs = [v, .int n] ∧ Da K H v (winD w) ∧ ∀ H', Same H H' → Q (.bl (reachW w n)) H'
theorem ok_reaches (T : Txt K mg A) : FnOk P w K mg base CX0 1 A.f_reaches A.d_reaches ["window", "version"] (sp_reach K) := by
  refine T.F_reaches.ok sc_reaches (fun vs H Q E h => ?_) (fun cdv Ar outer s H vs Q E hr h => ?_)
  · obtain ⟨_, _, _, rfl, _⟩ := h; rfl
  · obtain ⟨v, w, n, rfl, hd, q⟩ := h
    refine ⟨_, (pss_one (ps_ret (pe_or (pe_cmpR op_isNN (pe_ix ix_tup (pv 0) pe_int (fun _ _ => rfl)) pe_non (nomark _)) (pe_one (pe_cmpR op_ge (pe_ix ix_tup (pv 0) pe_int (fun _ _ => rfl)) (pv 1) (nomark _)))))), ?_⟩
    obtain ⟨a, rfl, hT⟩ := da_win hd
    obtain ⟨l, o⟩ := w
    have q' := q _ (Same.refl H)
    cases o with
    | none =>
      have hT : SqT K H a [.int l, .non] := hT
      repeat (walk_at "st")
      refine i_tt (by rfl) ?_
      exact q'
    | some k =>
      have hT : SqT K H a [.int l, .int k] := hT
      repeat (walk_at "st")
      refine i_ff (by rfl) ?_
      repeat (walk_at "st")
      exact q'
def sp_cont (K : PySem.W.Frag) (C D : Addr) : Sp := fun vs H Q E => ∃ v1 d1 v2 d2, vs = [v1, v2] ∧ Da K H v1 d1 ∧ Da K H v2 d2 ∧
  (∀ w n, winP d1 = some w → d2 = .int n → 0 ≤ n → ∀ H', Same H H' → Q (.bl (contW w n)) H') ∧
  (winB d1 = false → ∀ c H', H c = none → Same H H' → H' c = some (.xd [("value", v1)]) → E (.ref C) (some c) H') ∧
  (winB d1 = true → verD d2 = false → ∀ c H', H c = none → Same H H' → H' c = some (.xd [("value", v2)]) → E (.ref D) (some c) H')
theorem ok_contains (T : Txt K mg A) (G_require_window : FnOk P w K mg base (L2.CX P w) 4 A.f_require_window A.d_require_window ["value"] (sp_req K winB A.c_InvalidWindow "value")) (G_require_version : FnOk P w K mg base (L2.CX P w) 3 A.f_require_version A.d_require_version ["value"] (sp_req K verD A.c_InvalidVersion "value")) (G_reaches : FnOk P w K mg base CX0 1 A.f_reaches A.d_reaches ["window", "version"] (sp_reach K)) :
    FnOk P w K mg base (L2.CX P w) 5 A.f_contains A.d_contains ["window", "version"] (sp_cont K A.c_InvalidWindow A.c_InvalidVersion) := by
  refine T.F_contains.okX sc_contains (fun vs H Q E h => ?_) (fun cdv Ar outer s H vs Q E hr h => ?_)
  · obtain ⟨_, _, _, _, rfl, _⟩ := h; rfl
  · obtain ⟨v1, d1, v2, d2, rfl, h1, h2, q, q1, q2⟩ := h
    refine ⟨_, (pss_cons (ps_expr (L2.pe_call G_require_window (hr.mono (by decide)) (by rfl) T.g_require_window T.F_require_window.kp T.b_require_window .nil (passes_call (takes_of rfl rfl rfl rfl) fun _ _ _ _ h => h) (pa_cons (pv 0) pa_nil)))
(pss_cons (ps_expr (L2.pe_call G_require_version (hr.mono (by decide)) (by rfl) T.g_require_version T.F_require_version.kp T.b_require_version .nil (passes_call (takes_of rfl rfl rfl rfl) fun _ _ _ _ h => h) (pa_cons (pv 1) pa_nil)))
(pss_one (ps_ret (pe_and (pe_cmpR op_le (pe_ix ix_tup (pv 0) pe_int (fun _ _ => rfl)) (pv 1) (nomark _)) (pe_one (L2.pe_call G_reaches (hr.mono (by decide)) (by rfl) T.g_reaches T.F_reaches.kp T.b_reaches .nil pass0 (pa_cons (pv 0) (pa_cons (pv 1) pa_nil))))))))), ?_⟩
    repeat (walk_at "st")
    refine ⟨_, _, rfl, h1, fun e1 G1 s1 => ?_, fun e c G1 hc s1 ec => q1 e c G1 hc s1 ec⟩
    repeat (walk_at "st")
    refine ⟨_, _, rfl, h2.same s1, fun e2 G2 s2 => ?_, fun e c G2 hc s2 ec => q2 e1 e c G2 (none_of s1 hc) (s1.trans s2) ec⟩
    obtain ⟨w, hw⟩ := Option.isSome_iff_exists.mp (show (winP d1).isSome = true from e1)
    obtain ⟨rfl, ok⟩ := winP_some hw
    obtain ⟨n, rfl, rfl, n0⟩ := verD_int h2 e2
    have hw2 := h1.same (s1.trans s2)
    obtain ⟨a, rfl, hT⟩ := da_win hw2
    obtain ⟨l, o⟩ := w
    have q' := q _ _ hw rfl n0
    unfold contW at q'
    repeat (walk_at "st")
    refine i_ite (fun e => ?_) (fun e => ?_)
    · repeat (walk_at "st")
      refine ⟨_, _, _, rfl, hw2, fun G3 s3 => ?_⟩
      have q' := q' _ (s1.trans (s2.trans s3))
      rw [e] at q'
      exact q'
    · have q' := q' _ (s1.trans s2)
      rw [e] at q'
      exact q'
def sp_rises (K : PySem.W.Frag) (C : Addr) : Sp := fun vs H Q E => ∃ v1 d1 v2 d2, vs = [v1, v2] ∧ Da K H v1 d1 ∧ Da K H v2 d2 ∧
  (∀ w u, winP d1 = some w → winP d2 = some u → ∀ H', Same H H' → Q (.bl (risesW w u)) H') ∧
  (winB d1 = false → ∀ c H', H c = none → Same H H' → H' c = some (.xd [("value", v1)]) → E (.ref C) (some c) H') ∧
  (winB d1 = true → winB d2 = false → ∀ c H', H c = none → Same H H' → H' c = some (.xd [("value", v2)]) → E (.ref C) (some c) H')
theorem ok_rises (T : Txt K mg A) (G_require_window : FnOk P w K mg base (L2.CX P w) 4 A.f_require_window A.d_require_window ["value"] (sp_req K winB A.c_InvalidWindow "value")) (G_reaches : FnOk P w K mg base CX0 1 A.f_reaches A.d_reaches ["window", "version"] (sp_reach K)) : FnOk P w K mg base (L2.CX P w) 5 A.f_rises A.d_rises ["first", "second"] (sp_rises K A.c_InvalidWindow) := by
  refine T.F_rises.okX sc_rises (fun vs H Q E h => ?_) (fun cdv Ar outer s H vs Q E hr h => ?_)
  · obtain ⟨_, _, _, _, rfl, _⟩ := h; rfl
  · obtain ⟨v1, d1, v2, d2, rfl, h1, h2, q, q1, q2⟩ := h
    refine ⟨_, (pss_cons (ps_expr (L2.pe_call G_require_window (hr.mono (by decide)) (by rfl) T.g_require_window T.F_require_window.kp T.b_require_window .nil (passes_call (takes_of rfl rfl rfl rfl) fun _ _ _ _ h => h) (pa_cons (pv 0) pa_nil)))
(pss_cons (ps_expr (L2.pe_call G_require_window (hr.mono (by decide)) (by rfl) T.g_require_window T.F_require_window.kp T.b_require_window .nil (passes_call (takes_of rfl rfl rfl rfl) fun _ _ _ _ h => h) (pa_cons (pv 1) pa_nil)))
(pss_cons (ps_if (pt_cmpR op_lt (pe_ix ix_tup (pv 1) pe_int (fun _ _ => rfl)) (pe_ix ix_tup (pv 0) pe_int (fun _ _ => rfl)) (nomark _))
(pss_one (ps_ret pe_bl))
pss_nil)
(pss_one (ps_ret (pe_ifExp (pt_cmpR op_isNN (pe_ix ix_tup (pv 0) pe_int (fun _ _ => rfl)) pe_non (nomark _)) (pe_cmpR op_isNN (pe_ix ix_tup (pv 1) pe_int (fun _ _ => rfl)) pe_non (nomark _)) (L2.pe_call G_reaches (hr.mono (by decide)) (by rfl) T.g_reaches T.F_reaches.kp T.b_reaches .nil pass0 (pa_cons (pv 1) (pa_cons (pe_ix ix_tup (pv 0) pe_int (fun _ _ => rfl)) pa_nil))))))))), ?_⟩
    repeat (walk_at "st")
    refine ⟨_, _, rfl, h1, fun e1 G1 s1 => ?_, fun e c G1 hc s1 ec => q1 e c G1 hc s1 ec⟩
    repeat (walk_at "st")
    refine ⟨_, _, rfl, h2.same s1, fun e2 G2 s2 => ?_, fun e c G2 hc s2 ec => q2 e1 e c G2 (none_of s1 hc) (s1.trans s2) ec⟩
    obtain ⟨w, hw⟩ := Option.isSome_iff_exists.mp (show (winP d1).isSome = true from e1)
    obtain ⟨u, hu⟩ := Option.isSome_iff_exists.mp (show (winP d2).isSome = true from e2)
    obtain ⟨rfl, ok1⟩ := winP_some hw
    obtain ⟨rfl, ok2⟩ := winP_some hu
    have hw1 := h1.same (s1.trans s2)
    have hw2 := h2.same (s1.trans s2)
    obtain ⟨a, rfl, hT1⟩ := da_win hw1
    obtain ⟨b, rfl, hT2⟩ := da_win hw2
    obtain ⟨l1, o1⟩ := w
    obtain ⟨l2, o2⟩ := u
    have q' := q _ _ hw hu
    unfold risesW at q'
    have hT1 : SqT K G2 a [.int l1, hiV o1] := hT1
    have hT2 : SqT K G2 b [.int l2, hiV o2] := hT2
    repeat (walk_at "st")
    refine i_ite (fun e => ?_) (fun e => ?_)
    · repeat (walk_at "st")
      have q' := q' _ (s1.trans s2)
      rw [e] at q'
      exact q'
    · repeat (walk_at "st")
      rw [e] at q'
      cases o1 with
      | none =>
        refine i_tt (by rfl) ?_
        repeat (walk_at "st")
        have q' := q' _ (s1.trans s2)
        cases o2 <;> exact q'
      | some k =>
        refine i_ff (by rfl) ?_
        repeat (walk_at "st")
        refine ⟨_, _, _, rfl, hw2, fun G3 s3 => ?_⟩
        repeat (walk_at "st")
        exact q' _ (s1.trans (s2.trans s3))
def sp_ff (K : PySem.W.Frag) (C : Addr) : Sp := fun vs H Q E => ∃ v d, vs = [v] ∧ Da K H v d ∧ (∀ ws : List (Int × Option Int), d = .list (ws.map winD) → (∀ w ∈ ws, okW w) → ∀ H', Same H H' → Q (posV (fallI ws)) H') ∧
  (∀ o, badV d = some o → ∀ c H', H c = none → Same H H' → H' c = some (.xd [("position", o)]) → E (.ref C) (some c) H')
theorem ok_first_falling (T : Txt K mg A) (G_require_windows : FnOk P w K mg base (L2.CX P w) 4 A.f_require_windows A.d_require_windows ["value"] (sp_rws K A.c_InvalidWindows)) (G_rises : FnOk P w K mg base (L2.CX P w) 5 A.f_rises A.d_rises ["first", "second"] (sp_rises K A.c_InvalidWindow)) : FnOk P w K mg base (L2.CX P w) 6 A.f_first_falling A.d_first_falling ["windows"] (sp_ff K A.c_InvalidWindows) := by
  refine T.F_first_falling.okX sc_first_falling (fun vs H Q E h => ?_) (fun cdv Ar outer s H vs Q E hr h => ?_)
  · obtain ⟨_, _, rfl, _⟩ := h; rfl
  · obtain ⟨v, d, rfl, hd, q, qn⟩ := h
    refine ⟨_, (pss_cons (ps_expr (L2.pe_call G_require_windows (hr.mono (by decide)) (by rfl) T.g_require_windows T.F_require_windows.kp T.b_require_windows .nil (passes_call (takes_of rfl rfl rfl rfl) fun _ _ _ _ h => h) (pa_cons (pv 0) pa_nil)))
(pss_cons (ps_for (passes_of rfl) rfl (pi_enumzip (by rfl) T.m_enumerate (by rfl) T.m_zip (pa_cons (pv 0) (pa_cons (pe_slice sl_list (pv 0) (po_some pe_int) po_none) pa_nil))) (pg_tup rfl (pgs_cons (pg_name (i := 1) sc_first_falling.nd rfl (.inl rfl)) (pgs_cons (pg_tup rfl (pgs_cons (pg_name (i := 2) sc_first_falling.nd rfl (.inl rfl)) (pgs_cons (pg_name (i := 3) sc_first_falling.nd rfl (.inl rfl)) pgs_nil))) pgs_nil)))
(pss_one (ps_if (pt_not (pt_val (L2.pe_call G_rises (hr.mono (by decide)) (by rfl) T.g_rises T.F_rises.kp T.b_rises .nil (passes_call (takes_of rfl rfl rfl rfl) fun _ _ _ _ h => h) (pa_cons (pv 2) (pa_cons (pv 3) pa_nil)))))
(pss_one (ps_ret (pv 1)))
pss_nil)))
(pss_one (ps_ret pe_non)))), ?_⟩
    repeat (walk_at "st")
    refine ⟨_, _, rfl, hd, fun e1 G1 s1 => ?_, fun o ho c G1 hc s1 ec => qn o ho c G1 hc s1 ec⟩
    obtain ⟨ws, rfl, okw⟩ := badV_list e1
    obtain ⟨a, xs, ds, rfl, e2, hq, ha⟩ := da_list (hd.same s1) rfl
    cases e2
    have ll : xs.length = ws.length := by rw [ha.len]; simp
    repeat (walk_at "st")
    refine i_new fun p2 G2 n2 s2 e2 => ?_
    rw [cutV_from (by decide)] at e2
    repeat (walk_at "st")
    refine f_wq (wq_ez (K := K) (xs := xs) (ys := xs.drop (Int.toNat 1)) rfl) (fun i σ H' => Same G2 H' ∧ (∀ j, j < i → ∀ a b, ws[j]? = some a → ws[j + 1]? = some b → risesW a b = true) ∧ ∃ y1 y2 y3, σ = [some (.ref a), y1, y2, y3]) ⟨Same.refl _, fun j hj => absurd hj (Nat.not_lt_zero _), _, _, _, rfl⟩
      (fun i σ H' h => ⟨Same.seq (s2.trans h.1) hq, SqL.of (h.1 _ _ e2)⟩) (fun i x σ H0 H1 hi h sa hr => ?_) (fun σ H' h => ?_)
    · obtain ⟨s3, hj, y1, y2, y3, rfl⟩ := h
      obtain ⟨p, U, x1, x2, rfl, eT, eU, h1, h2⟩ := hr
      replace h2 : (xs.drop (Int.toNat 1))[i]? = some x2 := h2
      rw [List.getElem?_drop] at h2
      obtain ⟨d1, hd1, k1⟩ := da_get ha h1
      obtain ⟨d2, hd2, k2⟩ := da_get ha h2
      obtain ⟨w1, hw1, rfl⟩ := wins_get hd1
      obtain ⟨w2, hw2, rfl⟩ := wins_get hd2
      have i1 : Int.toNat 1 + i = i + 1 := by omega
      rw [i1] at hw2
      have ok1 := okw _ (List.mem_of_getElem? hw1)
      have ok2 := okw _ (List.mem_of_getElem? hw2)
      have s4 := s2.trans (s3.trans sa)
      repeat (walk_at "st")
      refine ⟨_, _, _, _, rfl, k1.same s4, k2.same s4, fun w u hw hu G5 s5 => ?_, fun z => ?_, fun _ z => ?_⟩
      · rw [winP_D ok1] at hw
        rw [winP_D ok2] at hu
        cases hw
        cases hu
        repeat (walk_at "st")
        refine i_ite (fun e => ?_) (fun e => ?_)
        · have e' : risesW w1 w2 = false := by simpa using e
          repeat (walk_at "st")
          have q' := q ws rfl okw _ (s1.trans (s4.trans s5))
          rw [fallI_some hj hw1 hw2 e'] at q'
          have q2 : (1 : Int) + (i : Nat) = ((1 + i : Nat) : Int) := by omega
          rw [q2]
          exact q'
        · have e' : risesW w1 w2 = true := by simpa using e
          repeat (walk_at "st")
          refine ⟨s3.trans (sa.trans s5), fun j hj2 a b ha hb => ?_, _, _, _, rfl⟩
          rcases Nat.lt_succ_iff_lt_or_eq.mp hj2 with z | z
          · exact hj j z a b ha hb
          · subst z
            rw [hw1] at ha
            rw [hw2] at hb
            cases ha
            cases hb
            exact e'
      · unfold winB at z; rw [winP_D ok1] at z; cases z
      · unfold winB at z; rw [winP_D ok2] at z; cases z
    · obtain ⟨s3, hj, y1, y2, y3, rfl⟩ := h
      repeat (walk_at "st")
      have q' := q ws rfl okw _ (s1.trans (s2.trans s3))
      rw [fallI_none fun j a b ha hb => ?_] at q'
      · exact q'
      · refine hj j ?_ a b ha hb
        have := (List.getElem?_eq_some_iff.mp hb).1
        rw [List.length_drop]
        omega
def sp_least (K : PySem.W.Frag) (C D : Addr) : Sp := fun vs H Q E => ∃ v1 d1 v2 d2, vs = [v1, v2] ∧ Da K H v1 d1 ∧ Da K H v2 d2 ∧
  (∀ (ws : List (Int × Option Int)) n, d1 = .list (ws.map winD) → (∀ w ∈ ws, okW w) → fallI ws = none → d2 = .int n → 0 ≤ n → ∀ H', Same H H' → Q (posV (leastI n ws)) H') ∧
  (∀ o, badV d1 = some o → ∀ c H', H c = none → Same H H' → H' c = some (.xd [("position", o)]) → E (.ref C) (some c) H') ∧
  (∀ (ws : List (Int × Option Int)) i, d1 = .list (ws.map winD) → (∀ w ∈ ws, okW w) → fallI ws = some i → ∀ c H', H c = none → Same H H' → H' c = some (.xd [("position", .int (i : Nat))]) → E (.ref C) (some c) H') ∧
  (∀ ws : List (Int × Option Int), d1 = .list (ws.map winD) → (∀ w ∈ ws, okW w) → fallI ws = none → verD d2 = false → ∀ c H', H c = none → Same H H' → H' c = some (.xd [("value", v2)]) → E (.ref D) (some c) H')
theorem ok_least_reaching (T : Txt K mg A) (G_first_falling : FnOk P w K mg base (L2.CX P w) 6 A.f_first_falling A.d_first_falling ["windows"] (sp_ff K A.c_InvalidWindows)) (G_require_version : FnOk P w K mg base (L2.CX P w) 3 A.f_require_version A.d_require_version ["value"] (sp_req K verD A.c_InvalidVersion "value")) (G_reaches : FnOk P w K mg base CX0 1 A.f_reaches A.d_reaches ["window", "version"] (sp_reach K)) (G_InvalidWindowsx_initx : FnOk P w K mg base CX0 1 A.f_InvalidWindowsx_initx A.d_InvalidWindowsx_initx ["self", "position"] (spI A.c_InvalidWindows ["position"])) :
    FnOk P w K mg base (L2.CX P w) 7 A.f_least_reaching A.d_least_reaching ["windows", "version"] (sp_least K A.c_InvalidWindows A.c_InvalidVersion) := by
  refine T.F_least_reaching.okX sc_least_reaching (fun vs H Q E h => ?_) (fun cdv Ar outer s H vs Q E hr h => ?_)
  · obtain ⟨_, _, _, _, rfl, _⟩ := h; rfl
  · obtain ⟨v1, d1, v2, d2, rfl, h1, h2, q, q1, q2, q3⟩ := h
    refine ⟨_, (pss_cons (ps_set (i := 2) sc_least_reaching.nd rfl (.inl rfl) (L2.pe_call G_first_falling (hr.mono (by decide)) (by rfl) T.g_first_falling T.F_first_falling.kp T.b_first_falling .nil (passes_call (takes_of rfl rfl rfl rfl) fun _ _ _ _ h => h) (pa_cons (pv 0) pa_nil)))
(pss_cons (ps_if (pt_cmpR op_notNN (pv 2) pe_non (nomark _))
(pss_one (ps_raiseN rfl (takes_of rfl rfl rfl rfl) (pmk_B T.EX_InvalidWindows.o T.iC_InvalidWindows T.tI_InvalidWindows G_InvalidWindowsx_initx (hr.mono (by decide)) T.b_InvalidWindowsx_initx pass0 (by rfl) T.gX_InvalidWindows (pa_cons (pv 2) pa_nil))))
pss_nil)
(pss_cons (ps_expr (L2.pe_call G_require_version (hr.mono (by decide)) (by rfl) T.g_require_version T.F_require_version.kp T.b_require_version .nil (passes_call (takes_of rfl rfl rfl rfl) fun _ _ _ _ h => h) (pa_cons (pv 1) pa_nil)))
(pss_cons (ps_for (passes_of rfl) rfl (pi_enum (by rfl) T.m_enumerate (pa_cons (pv 0) pa_nil)) (pg_tup rfl (pgs_cons (pg_name (i := 3) sc_least_reaching.nd rfl (.inl rfl)) (pgs_cons (pg_name (i := 4) sc_least_reaching.nd rfl (.inl rfl)) pgs_nil)))
(pss_one (ps_if (pt_val (L2.pe_call G_reaches (hr.mono (by decide)) (by rfl) T.g_reaches T.F_reaches.kp T.b_reaches .nil pass0 (pa_cons (pv 4) (pa_cons (pv 1) pa_nil))))
(pss_one (ps_ret (pv 3)))
pss_nil)))
(pss_one (ps_ret pe_non)))))), ?_⟩
    repeat (walk_at "st")
    refine ⟨_, _, rfl, h1, fun ws e okw G1 s1 => ?_, fun o ho c G1 hc s1 ec => q1 o ho c G1 hc s1 ec⟩
    subst e
    cases hf : fallI ws with
    | some i =>
      repeat (walk_at "st")
      refine i_tt (by rfl) ?_
      repeat (walk_at "st")
      refine i_mkR rfl (by decide) fun c H2 hc s2 ec => ?_
      exact q2 ws i rfl okw hf c H2 (none_of s1 hc) (s1.trans s2) ec
    | none =>
      repeat (walk_at "st")
      refine i_ff (by rfl) ?_
      repeat (walk_at "st")
      refine ⟨_, _, rfl, h2.same s1, fun e2 G2 s2 => ?_, fun e c G2 hc s2 ec => q3 ws rfl okw hf e c G2 (none_of s1 hc) (s1.trans s2) ec⟩
      obtain ⟨n, rfl, rfl, n0⟩ := verD_int h2 e2
      obtain ⟨a, xs, ds, rfl, e3, hq, ha⟩ := da_list (h1.same (s1.trans s2)) rfl
      cases e3
      have ll : xs.length = ws.length := by rw [ha.len]; simp
      repeat (walk_at "st")
      refine f_wq wq_enum (fun i σ H' => Same G2 H' ∧ (∀ j, j < i → ∀ w, ws[j]? = some w → reachW w n = false) ∧ ∃ y1 y2 y3, σ = [some (.ref a), some (.int n), y1, y2, y3]) ⟨Same.refl _, fun j hj => absurd hj (Nat.not_lt_zero _), _, _, _, rfl⟩ (fun i σ H' h => Same.seq h.1 hq) (fun i x σ H0 H1 hi h sa hr => ?_) (fun σ H' h => ?_)
      · obtain ⟨s3, hj, y1, y2, y3, rfl⟩ := h
        obtain ⟨p, x1, x2, rfl, eT, e1, e2⟩ := hr
        cases e1
        obtain ⟨d2, hd2, k2⟩ := da_get ha e2
        obtain ⟨w, hw, rfl⟩ := wins_get hd2
        have s4 := s3.trans sa
        repeat (walk_at "st")
        refine ⟨_, _, _, rfl, k2.same s4, fun G5 s5 => ?_⟩
        repeat (walk_at "st")
        refine i_ite (fun e => ?_) (fun e => ?_)
        · repeat (walk_at "st")
          have q' := q ws n rfl okw hf rfl n0 _ (s1.trans (s2.trans (s4.trans s5)))
          rw [leastI_some hj hw e] at q'
          exact q'
        · repeat (walk_at "st")
          refine ⟨s4.trans s5, fun j hj2 u hu => ?_, _, _, _, rfl⟩
          rcases Nat.lt_succ_iff_lt_or_eq.mp hj2 with z | z
          · exact hj j z u hu
          · subst z
            rw [hw] at hu
            cases hu
            exact e
      · obtain ⟨s3, hj, y1, y2, y3, rfl⟩ := h
        repeat (walk_at "st")
        have q' := q ws n rfl okw hf rfl n0 _ (s1.trans (s2.trans s3))
        rw [leastI_none fun j w hw => hj j (by rw [ll]; exact (List.getElem?_eq_some_iff.mp hw).1) w hw] at q'
        exact q'

end
end KX

namespace KX
open PySem PySem.Spec PyProof.Rows L2

local macro_rules | `(tactic| walk_at "kp") => `(tactic| first
  | with_reducible exact Kp.refl
  | with_reducible exact Kp.thenS (by assumption) (by walk_at "kp")
  | with_reducible exact Kp.thenO (by assumption) (by walk_at "ne") (by walk_at "kp")
  | fail)
local macro_rules | `(tactic| walk_at "hq") => `(tactic| first
  | assumption
  | with_reducible exact Kp.get (by assumption) (by walk_at "kp")
  | fail)
local macro_rules | `(tactic| walk_at "hg") => `(tactic| first
  | walk_at "hq"
  | exact upd_same
  | with_reducible exact (upd_ne (by walk_at "ne")).trans (by walk_at "hg")
  | with_reducible exact Same.get (by assumption) (by walk_at "hg")
  | with_reducible exact Off.get (by assumption) (by walk_at "ne") (by walk_at "hg")
  | fail)
local macro_rules | `(tactic| walk_at "ne") => `(tactic| first
  | assumption
  | (apply Ne.symm; assumption)
  | exact Rok.ne' (by assumption) (by walk_at "rok")
  | exact (Rok.ne' (by assumption) (by walk_at "rok")).symm
  | exact ne_some (by assumption) (by walk_at "hg")
  | exact (ne_some (by assumption) (by walk_at "hg")).symm
  | fail)
local macro_rules | `(tactic| walk_at "rok") => `(tactic| first
  | assumption
  | with_reducible exact Rok.kp (by assumption) (by walk_at "kp")
  | with_reducible exact Rok.same (by assumption) (by walk_at "rok")
  | fail)
local macro_rules | `(tactic| walk_at "sq") => `(tactic| first
  | assumption
  | exact Same.seq (by assumption) (by assumption)
  | with_reducible exact SqL.of (by walk_at "hg")
  | with_reducible exact SqT.of (by walk_at "hg")
  | fail)
local macro_rules | `(tactic| walk_at "dac") => `(tactic| first
  | assumption
  | exact DaF.same (by assumption) (by walk_at "dac")
  | fail)
local macro_rules | `(tactic| walk_at "da") => `(tactic| first
  | exact (DaF.non : DaS _ _ _ _)
  | exact (DaF.bl _ : DaS _ _ _ _)
  | exact (DaF.int _ : DaS _ _ _ _)
  | exact (DaF.str _ : DaS _ _ _ _)
  | exact DaF.non
  | exact DaF.bl _
  | exact DaF.int _
  | exact DaF.str _
  | walk_at "dac"
  | with_reducible exact DaF.lst (SqL.of (by walk_at "hq")) (fun _ => by assumption) (by walk_at "das")
  | with_reducible exact Da.lst (SqL.of (by walk_at "hq")) (by walk_at "das")
  | with_reducible exact DaF.tup (SqT.of (by walk_at "hq")) (by walk_at "das")
  | with_reducible exact DaF.dic (Rd.of (by walk_at "hq")) (by walk_at "dak")
  | fail)
local macro_rules | `(tactic| walk_at "das") => `(tactic| first
  | assumption
  | exact DaAllF.nil
  | exact DaAllF.cons (by walk_at "da") (by walk_at "das")
  | fail)
local macro_rules | `(tactic| walk_at "dak") => `(tactic| first
  | assumption
  | exact DaKvF.nil
  | exact DaKvF.cons (by walk_at "da") (by walk_at "dak")
  | fail)
local macro_rules | `(tactic| walk_at "shw") => `(tactic| first
  | assumption
  | exact shw_b2 _ _
  | exact ⟨by decide +kernel, by decide +kernel, by decide +kernel⟩
  | fail)
local macro_rules | `(tactic| walk_at "nod") => `(tactic| first
  | exact .inl rfl
  | exact .inr rfl
  | assumption
  | exact .inr (by assumption)
  | fail)
local macro_rules | `(tactic| walk_at "okd") => `(tactic| first
  | assumption
  | exact okd_of (by decide +kernel)
  | fail)
local macro_rules | `(tactic| walk_at "off") => `(tactic| first
  | assumption
  | exact Off.refl _ _
  | exact Same.refl _
  | with_reducible exact Same.thenS (by assumption) (by walk_at "off")
  | with_reducible exact Off.thenS (by assumption) (by walk_at "off")
  | with_reducible exact Off.thenO (by assumption) (by walk_at "off")
  | with_reducible exact Same.thenF (by assumption) (by assumption) (by walk_at "off") (by walk_at "off")
  | with_reducible exact Off.thenF (by assumption) (by assumption) (by walk_at "off") (by walk_at "off")
  | fail)
local macro_rules | `(tactic| walk_at "side") => `(tactic| first
  | assumption
  | omega
  | decide
  | (simp only [List.length_cons, List.length_nil]; decide)
  | exact ⟨by omega, by omega⟩
  | exact ⟨by omega, PyProof.noPylong_of_log2 (by first | assumption | decide)⟩
  | exact .inl ⟨by omega, by omega⟩
  | exact .inr ⟨by omega, by omega⟩
  | exact ⟨by decide, by decide, by decide⟩
  | exact ⟨by decide, by decide, by omega⟩
  | fail)
local macro_rules | `(tactic| walk_at "st") => `(tactic| first
  | with_reducible refine i_seq ?_
  | with_reducible refine i_bi ?_
  | with_reducible refine i_raise ?_
  | with_reducible refine i_callX ?_
  | with_reducible refine i_tryN ?_
  | with_reducible refine i_isNon ?_
  | with_reducible refine i_isNotNon ?_
  | ((with_reducible refine' i_split ?h ?z ?_); (case h => rfl); (case z => walk_at "side"))
  | with_reducible refine i_find ?_
  | ((with_reducible refine i_strI ?h ?_); (case h => walk_at "side"))
  | with_reducible refine i_fmt ?_
  | ((with_reducible refine i_fmS ?h ?_); (case h => walk_at "side"))
  | ((with_reducible refine i_fmI ?h ?_); (case h => walk_at "side"))
  | with_reducible refine i_jn ?_
  | with_reducible refine i_js0 ?_
  | with_reducible refine i_js1 ?_
  | ((with_reducible refine i_jsR ?h ?_); (case h => walk_at "side"))
  | with_reducible refine i_revS ?_
  | ((with_reducible refine i_exrev ?h ?_); (case h => walk_at "side"))
  | with_reducible refine i_revL ?_
  | ((with_reducible refine' i_exrevL ?h ?_); (case h => walk_at "sq"))
  | with_reducible refine i_par3 ?_
  | with_reducible refine i_ex3 ?_
  | with_reducible refine i_stB ?_
  | with_reducible refine i_mk0 ?_
  | with_reducible refine i_asg ?_
  | with_reducible refine i_c ?_
  | ((with_reducible refine' i_var ?h ?_); (case h => rfl))
  | with_reducible refine i_op ?_
  | with_reducible refine i_cons ?_
  | with_reducible refine i_nil ?_
  | ((with_reducible refine' i_gName ?h ?_); (case h => rfl))
  | with_reducible refine i_rI0 ?_
  | ((with_reducible refine i_rI ?h ?_); (case h => walk_at "side"))
  | with_reducible refine i_test ?_
  | with_reducible refine i_exbl ?_
  | with_reducible refine i_exint ?_
  | with_reducible refine i_exs ?_
  | with_reducible refine i_ret ?_
  | with_reducible refine i_next ?_
  | with_reducible refine i_ifS ?_
  | ((with_reducible refine' i_rIxL ?h ?e ?_); (case h => walk_at "sq"); (case e => first | assumption | rfl))
  | ((with_reducible refine' i_rIxT ?h ?e ?_); (case h => walk_at "sq"); (case e => first | assumption | rfl))
  | ((with_reducible refine' i_rIxS ?h ?e ?_); (case h => walk_at "side"); (case e => first | assumption | rfl))
  | with_reducible refine i_un ?_
  | with_reducible refine i_rU ?_
  | ((with_reducible refine i_rEqSame ?h ?_); (case h => rfl))
  | ((with_reducible refine i_rNeSame ?h ?_); (case h => rfl))
  | ((with_reducible refine i_rEq ?h ?_); (case h => rfl))
  | ((with_reducible refine i_rNe ?h ?_); (case h => rfl))
  | with_reducible refine i_tB ?_
  | with_reducible refine i_and ?_
  | with_reducible refine i_or ?_
  | with_reducible refine i_not ?_
  | with_reducible refine i_andV ?_
  | with_reducible refine i_orV ?_
  | with_reducible refine i_notV ?_
  | with_reducible refine i_if ?_
  | with_reducible refine i_chain ?_
  | with_reducible refine i_drop ?_
  | with_reducible refine i_retN ?_
  | with_reducible refine i_par ?_
  | with_reducible refine i_ex2 ?_
  | ((with_reducible refine' i_aug ?h ?_); (case h => rfl))
  | with_reducible refine i_gNil ?_
  | with_reducible refine i_gCons ?_
  | ((with_reducible refine' i_gTup ?h ?e ?_); (case h => walk_at "sq"); (case e => rfl))
  | with_reducible refine i_gSub ?_
  | ((with_reducible refine' i_rSetL ?h ?e ?_); (case h => walk_at "hg"); (case e => first | assumption | rfl))
  | with_reducible refine i_tup ?_
  | with_reducible refine i_lst ?_
  | with_reducible refine i_lstN ?_
  | with_reducible refine i_newDK ?_
  | with_reducible refine i_disp ?_
  | with_reducible refine i_pairs0 ?_
  | with_reducible refine i_pairs1 ?_
  | with_reducible refine i_call ?_
  | with_reducible refine i_cb ?_
  | with_reducible refine i_bm ?_
  | with_reducible refine i_m1 ?_
  | with_reducible refine i_m0 ?_
  | ((with_reducible refine' i_rAppend ?h ?e ?_); (case h => walk_at "hg"); (case e => walk_at "side"))
  | ((with_reducible refine i_rSlS ?h ?_); (case h => walk_at "side"))
  | ((with_reducible refine' i_rSlL ?h ?_); (case h => walk_at "sq"))
  | with_reducible refine i_sl ?_
  | with_reducible refine i_noPart ?_
  | with_reducible refine i_part ?_
  | with_reducible refine i_rng1 ?_
  | with_reducible refine i_iList ?_
  | with_reducible refine i_iStr ?_
  | with_reducible refine i_iEnum ?_
  | with_reducible refine i_iZip ?_
  | with_reducible refine i_ez ?_
  | ((with_reducible refine' i_exen ?h ?_); (case h => walk_at "sq"))
  | ((with_reducible refine' i_exz ?h ?k ?_); (case h => walk_at "sq"); (case k => walk_at "sq"))
  | ((with_reducible refine' i_listN ?h ?_); (case h => walk_at "sq"))
  | with_reducible refine i_intB ?_
  | ((with_reducible refine' i_tyL ?h ?_); (case h => walk_at "sq"))
  | with_reducible refine i_isBl ?_
  | ((with_reducible refine i_callW ?_))
  | ((with_reducible refine i_exrng ?h1 ?h2 ?_); (case h1 => walk_at "side"); (case h2 => walk_at "side"))
  | ((with_reducible refine' i_exl ?h ?_); (case h => walk_at "sq"))
  | with_reducible refine i_for ?_
  | with_reducible refine i_lc ?_
  | with_reducible refine i_yes ?_
  | with_reducible refine i_iteT ?_
  | with_reducible refine i_iteF ?_
  | ((with_reducible refine i_divmod ?h ?_); (case h => walk_at "side"))
  | ((with_reducible refine' i_isi ?h ?e ?_); (case h => walk_at "da"); (case e => decide))
  | ((with_reducible refine i_lenS ?h ?_); (case h => walk_at "side"))
  | ((with_reducible refine' i_lenL ?h ?_); (case h => walk_at "sq"))
  | ((with_reducible refine' i_lenT ?h ?_); (case h => walk_at "sq"))
  | ((with_reducible refine' i_repr ?h ?n ?e ?_); (case h => walk_at "da"); (case n => walk_at "nod"); (case e => walk_at "shw"))
  | ((with_reducible refine' i_rCat ?h ?e ?z ?_); (case h => walk_at "hg"); (case e => walk_at "hg"); (case z => walk_at "side"))
  | ((with_reducible refine i_rCatS ?h ?_); (case h => walk_at "side"))
  | with_reducible refine i_exstr ?_
  | ((with_reducible refine' i_join ?h ?z ?_); (case h => walk_at "sq"); (case z => walk_at "side"))
  | with_reducible refine i_abs ?_
  | with_reducible refine i_max ?_
  | with_reducible refine i_min ?_
  | ((with_reducible refine' i_rAll ?h ?_); (case h => walk_at "sq"))
  | ((with_reducible refine' i_lcEl ?h ?e ?_); (case h => walk_at "hg"); (case e => walk_at "side"))
  | with_reducible refine ⟨_, _, rfl, rfl, ?_⟩
  | with_reducible refine ⟨_, _, rfl, ?_⟩
  | with_reducible refine ⟨_, rfl, ?_⟩
  | with_reducible refine And.intro rfl ?_
  | ((with_reducible refine And.intro ?h ?_); (case h => walk_at "side"))
  | fail)

section
variable {P : Program} {w : World} {K : PySem.W.Frag} {mg : Str → Option Value} {base : Heap} {A : Ad}
def sp_l_choice : Sp := fun vs H Q _ => ∃ r o xs, vs = [.ref r, .ref o] ∧ H o = some (.lst xs) ∧ o ≠ r ∧ 0 < xs.length ∧ xs.length < 1000 ∧ Rok H r ∧
  ∀ v H', v ∈ xs → Rok H' r → Off r H H' → Q v H'
theorem ok_l_choice (T : Txt K mg A) (G_l_draw : Fg P w K mg base CX0 1 A.f_l_draw A.d_l_draw ["_law_rng_here", "_law_many"] sp_l_draw) : Fg P w K mg base CX0 2 A.f_l_choice A.d_l_choice ["_law_rng_here", "_law_options"] sp_l_choice := by
  refine ok_g T.F_l_choice sc_l_choice (fun vs H Q E h => ?_) (fun cdv Ar outer s H vs Q E hr h => ?_)
  · obtain ⟨_, _, _, rfl, _⟩ := h; rfl
  · obtain ⟨r, o, xs, rfl, hO, hne, l0, l1, hR, q⟩ := h
    have lb : (xs.length : Int).natAbs.log2 < 9000 := Nat.lt_of_le_of_lt (Nat.log2_le_self _) (by omega)
    refine ⟨_, (pss_one (ps_ret (pe_ix ix_list (pv 1) (pe_call G_l_draw (hr.mono (by decide)) (by rfl) T.g_l_draw T.F_l_draw.kp T.b_l_draw .nil pass0 (pa_cons (pv 0) (pa_cons (pe_callB call_lenN (by rfl) T.m_len (by decide +kernel) (pa_cons (pv 1) pa_nil)) pa_nil))) (fun _ _ => rfl)))), ?_⟩
    repeat (walk_at "st")
    refine ⟨_, _, rfl, (by walk_at "side"), (by first | decide | decide +kernel | assumption), (by walk_at "rok"), fun d1 G1 dl1 dh1 r1 o1 => ?_⟩
    obtain ⟨v, hv, ev⟩ := atI_lt (xs := xs) dl1 dh1
    repeat (walk_at "st")
    exact q _ _ hv r1 o1

def sp_l_top (K : PySem.W.Frag) : Sp := fun vs H Q _ => ∃ v w, vs = [v] ∧ Da K H v (winD w) ∧ ∀ H', Same H H' → Q (.int (topW w)) H'
theorem ok_l_top (T : Txt K mg A) : Fg P w K mg base CX0 1 A.f_l_top A.d_l_top ["_law_one"] (sp_l_top K) := by
  refine ok_g T.F_l_top sc_l_top (fun vs H Q E h => ?_) (fun cdv Ar outer s H vs Q E hr h => ?_)
  · obtain ⟨_, _, rfl, _⟩ := h; rfl
  · obtain ⟨v, w, rfl, hd, q⟩ := h
    refine ⟨_, (pss_one (ps_ret (pe_ifExp (pt_cmpR op_isNN (pe_ix ix_tup (pv 0) pe_int (fun _ _ => rfl)) pe_non (nomark _)) (pe_op op_pow pe_int pe_int) (pe_ix ix_tup (pv 0) pe_int (fun _ _ => rfl))))), ?_⟩
    obtain ⟨a, rfl, hT⟩ := da_win hd
    obtain ⟨l, o⟩ := w
    have q' := q _ (Same.refl H)
    cases o with
    | none =>
      have hT : SqT K H a [.int l, .non] := hT
      repeat (walk_at "st")
      refine i_tt (by rfl) ?_
      repeat (walk_at "st")
      exact q'
    | some k =>
      have hT : SqT K H a [.int l, .int k] := hT
      repeat (walk_at "st")
      refine i_ff (by rfl) ?_
      repeat (walk_at "st")
      exact q'
def sp_l_falls (K : PySem.W.Frag) : Sp := fun vs H Q _ => ∃ v1 w1 v2 w2, vs = [v1, v2] ∧ Da K H v1 (winD w1) ∧ Da K H v2 (winD w2) ∧ ∀ H', Same H H' → Q (.bl (fallsW w1 w2)) H'
theorem ok_l_falls (T : Txt K mg A) (G_l_top : Fg P w K mg base CX0 1 A.f_l_top A.d_l_top ["_law_one"] (sp_l_top K)) : Fg P w K mg base CX0 2 A.f_l_falls A.d_l_falls ["_law_one", "_law_other"] (sp_l_falls K) := by
  refine ok_g T.F_l_falls sc_l_falls (fun vs H Q E h => ?_) (fun cdv Ar outer s H vs Q E hr h => ?_)
  · obtain ⟨_, _, _, _, rfl, _⟩ := h; rfl
  · obtain ⟨v1, w1, v2, w2, rfl, h1, h2, q⟩ := h
    refine ⟨_, (pss_one (ps_ret (pe_or (pe_cmpR op_lt (pe_ix ix_tup (pv 1) pe_int (fun _ _ => rfl)) (pe_ix ix_tup (pv 0) pe_int (fun _ _ => rfl)) (nomark _)) (pe_one (pe_cmpR op_lt (pe_call G_l_top (hr.mono (by decide)) (by rfl) T.g_l_top T.F_l_top.kp T.b_l_top .nil pass0 (pa_cons (pv 1) pa_nil)) (pe_call G_l_top (hr.mono (by decide)) (by rfl) T.g_l_top T.F_l_top.kp T.b_l_top .nil pass0 (pa_cons (pv 0) pa_nil)) (nomark _)))))), ?_⟩
    obtain ⟨a1, rfl, hT1⟩ := da_win h1
    obtain ⟨a2, rfl, hT2⟩ := da_win h2
    obtain ⟨l1, o1⟩ := w1
    obtain ⟨l2, o2⟩ := w2
    have hT1 : SqT K H a1 [.int l1, hiV o1] := hT1
    have hT2 : SqT K H a2 [.int l2, hiV o2] := hT2
    unfold fallsW at q
    repeat (walk_at "st")
    refine i_ite (fun e => ?_) (fun e => ?_)
    · have q' := q _ (Same.refl H)
      rw [e] at q'
      exact q'
    · repeat (walk_at "st")
      refine ⟨_, _, rfl, h2, fun G1 s1 => ?_⟩
      repeat (walk_at "st")
      refine ⟨_, _, rfl, h1.same s1, fun G2 s2 => ?_⟩
      repeat (walk_at "st")
      have q' := q _ (s1.trans s2)
      rw [e] at q'
      exact q'
def sp_l_first (K : PySem.W.Frag) : Sp := fun vs H Q _ => ∃ (a : Addr) (bs : List Bool), vs = [.ref a] ∧ SqL K H a (bs.map V.bl) ∧ bs.length < 100000 ∧ ∀ H', Same H H' → Q (posV (firstI bs)) H'
theorem ok_l_first (T : Txt K mg A) : Fg P w K mg base CX0 1 A.f_l_first A.d_l_first ["_law_flags"] (sp_l_first K) := by
  refine ok_g T.F_l_first sc_l_first (fun vs H Q E h => ?_) (fun cdv Ar outer s H vs Q E hr h => ?_)
  · obtain ⟨_, _, rfl, _⟩ := h; rfl
  · obtain ⟨a, bs, rfl, hq, hl, q⟩ := h
    refine ⟨_, (pss_one (ps_ret (pe_ix ix_list (pe_op op_cat (pe_lc (own := [("_law_k", 1), ("_law_flag", 2)]) (g := (gTup K 2 (gCons (gName 1) (gCons (gName 2) gNil)))) rfl sc_l_first.nd (pi_enum (by rfl) T.m_enumerate (pa_cons (pv 0) pa_nil)) (blkOk_by (own := [("_law_k", 1), ("_law_flag", 2)]) (N := ["_law_flags", "_law_k", "_law_flag"]) (sc := defScope s_l_first) (by decide +kernel)) (fun _ _ _ _ _ => (pg_tup rfl (pgs_cons (pg_name (i := 1) sc_l_first.nd rfl (.inl rfl)) (pgs_cons (pg_name (i := 2) sc_l_first.nd rfl (.inl rfl)) pgs_nil)))) (fun _ _ _ _ _ => (pts_one (pt_val (pv 2)))) (fun _ _ _ _ _ => (pv 1))) (pe_lst (pa_cons pe_non pa_nil))) pe_int (fun _ _ => rfl)))), ?_⟩
    repeat (walk_at "st")
    refine l_fq wq_enum (fun i => bs.getD i false) (fun i => .int (i : Nat)) (by rw [List.length_map, sizeLine_eq]; omega) (fun H' s => Same.seq s hq) (fun i x H' S N hi hr s1 hS hN => ?_) (fun D H' n1 s1 e1 => ?_)
    · obtain ⟨p, x1, x2, rfl, eT, e1, e2⟩ := hr
      cases e1
      replace e2 : (bs.map V.bl)[i]? = some x2 := e2
      rw [List.getElem?_map] at e2
      cases hb : bs[i]? with
      | none => rw [hb] at e2; cases e2
      | some b =>
        rw [hb] at e2
        cases e2
        have hg : bs.getD i false = b := by rw [List.getD_eq_getElem?_getD, hb]; rfl
        rw [hg] at hS hN
        repeat (walk_at "st")
        refine i_ite (fun e => ?_) (fun e => ?_)
        · repeat (walk_at "st")
          exact hS e _ (Same.refl _)
        · exact hN e _ (Same.refl _)
    · rw [List.length_map] at e1
      repeat (walk_at "st")
      refine i_new fun p2 G2 n2 s2 e2 => ?_
      repeat (walk_at "st")
      have ln : (((List.range bs.length).filter fun i => bs.getD i false).map fun i => V.int ((i : Nat) : Int)).length ≤ bs.length := by
        rw [List.length_map]
        exact Nat.le_trans (List.length_filter_le _ _) (by simp)
      refine i_rCat (s2 _ _ e1) e2 (by rw [sizeLine_eq]; simp only [List.length_cons, List.length_nil]; omega) ?_
      refine i_new fun p3 G3 n3 s3 e3 => ?_
      repeat (walk_at "st")
      refine i_rIxL (SqL.of e3) first_get ?_
      exact q _ (s1.trans (s2.trans s3))
def small (w : Int × Option Int) : Prop := okW w ∧ w.1 ≤ 1000 ∧ ∀ h, w.2 = some h → h ≤ 1000
def sp_l_windows (K : PySem.W.Frag) : Sp := fun vs H Q _ => ∃ r m l, vs = [.ref r, .int m, .int l] ∧ Rok H r ∧ 0 ≤ m ∧ m ≤ 50 ∧ 0 ≤ l ∧ l ≤ 1 ∧
  ∀ a ws H', WLs K H' r a ws → (ws.length : Int) = m → (∀ w ∈ ws, small w) → H a = none → Off r H H' → Rok H' r → Q (.ref a) H'
theorem ok_l_windows (T : Txt K mg A) (G_l_draw : Fg P w K mg base CX0 1 A.f_l_draw A.d_l_draw ["_law_rng_here", "_law_many"] sp_l_draw) : Fg P w K mg base CX0 2 A.f_l_windows A.d_l_windows ["_law_rng_here", "_law_many", "_law_loose"] (sp_l_windows K) := by
  refine ok_g T.F_l_windows sc_l_windows (fun vs H Q E h => ?_) (fun cdv Ar outer s H vs Q E hr h => ?_)
  · obtain ⟨_, _, _, rfl, _⟩ := h; rfl
  · obtain ⟨r, m, l, rfl, hR, m0, m1, l0, l1, q⟩ := h
    refine ⟨_, (pss_cons (ps_par3 (i := 3) (j := 4) (l := 5) rfl sc_l_windows.nd rfl rfl rfl (by decide) (by decide) (by decide) rfl rfl rfl (pa_cons pe_int (pa_cons (pe_ix ix_list (pe_lst (pa_cons (pv 2) (pa_cons pe_int (pa_cons pe_int (pa_cons pe_non pa_nil))))) (pe_call G_l_draw (hr.mono (by decide)) (by rfl) T.g_l_draw T.F_l_draw.kp T.b_l_draw .nil pass0 (pa_cons (pv 0) (pa_cons pe_int pa_nil))) (fun _ _ => rfl)) (pa_cons (pe_lst pa_nil) pa_nil))) (by rfl))
(pss_cons (ps_for PassesOwn.never rfl (pi_range1 rfl T.m_range (pa_cons (pv 1) pa_nil)) (pg_name (i := 6) sc_l_windows.nd rfl (.inl rfl))
(pss_cons (ps_expr (pe_bm PySem.F.plainAttrs_list PySem.F.slot_list_append PySem.F.type_list_append mt_append (pv 5) (pa_cons (pe_tup (pa_cons (pv 3) (pa_cons (pv 4) pa_nil))) pa_nil)))
(pss_cons (ps_set (i := 3) sc_l_windows.nd rfl (.inl rfl) (pe_op op_add (pv 3) (pe_ix ix_list (pe_lst (pa_cons pe_int (pa_cons pe_int (pa_cons (pe_op op_sub pe_int (pv 2)) (pa_cons pe_int (pa_cons (pe_op op_sub pe_int (pv 2)) pa_nil)))))) (pe_call G_l_draw (hr.mono (by decide)) (by rfl) T.g_l_draw T.F_l_draw.kp T.b_l_draw .nil pass0 (pa_cons (pv 0) (pa_cons pe_int pa_nil))) (fun _ _ => rfl))))
(pss_one (ps_if (pt_cmpR op_notNN (pv 4) pe_non (nomark _))
(pss_cons (ps_set (i := 4) sc_l_windows.nd rfl (.inl rfl) (pe_callB (call_max2 rfl) (by rfl) T.m_max (by decide +kernel) (pa_cons (pe_op op_add (pv 3) (pv 2)) (pa_cons (pe_op op_add (pv 4) (pe_ix ix_list (pe_lst (pa_cons (pv 2) (pa_cons pe_int (pa_cons pe_int (pa_cons pe_int pa_nil))))) (pe_call G_l_draw (hr.mono (by decide)) (by rfl) T.g_l_draw T.F_l_draw.kp T.b_l_draw .nil pass0 (pa_cons (pv 0) (pa_cons pe_int pa_nil))) (fun _ _ => rfl))) pa_nil))))
(pss_one (ps_set (i := 4) sc_l_windows.nd rfl (.inl rfl) (pe_ifExp (pt_cmpR op_eq (pe_call G_l_draw (hr.mono (by decide)) (by rfl) T.g_l_draw T.F_l_draw.kp T.b_l_draw .nil pass0 (pa_cons (pv 0) (pa_cons pe_int pa_nil))) pe_int (nomark _)) pe_non (pv 4)))))
pss_nil)))))
(pss_one (ps_ret (pv 5))))), ?_⟩
    repeat (walk_at "st")
    refine i_new fun p1 G1 n1 s1 e1 => ?_
    repeat (walk_at "st")
    refine ⟨_, _, rfl, (by walk_at "side"), (by first | decide | decide +kernel | assumption), (by walk_at "rok"), fun d2 G2 dl2 dh2 r2 o2 => ?_⟩
    obtain ⟨v2, hv2, ev2⟩ := atI_lt (xs := [V.int l, V.int 1, V.int 2, V.non]) dl2 dh2
    have k2 : ∃ o : Option Int, v2 = hiV o ∧ ∀ h, o = some h → 0 ≤ h ∧ h ≤ 2 := by
      simp only [List.mem_cons, List.not_mem_nil, or_false] at hv2
      rcases hv2 with rfl | rfl | rfl | rfl
      · exact ⟨some l, rfl, fun h z => by cases z; omega⟩
      · exact ⟨some 1, rfl, fun h z => by cases z; omega⟩
      · exact ⟨some 2, rfl, fun h z => by cases z; omega⟩
      · exact ⟨none, rfl, fun h z => by cases z⟩
    obtain ⟨o, rfl, ho⟩ := k2
    repeat (walk_at "st")
    refine i_new fun p3 G3 n3 s3 e3 => ?_
    repeat (walk_at "st")
    have ne3 : p3 ≠ r := by walk_at "ne"
    have off3 : Off r H G3 := by walk_at "off"
    have r3 : Rok G3 r := by walk_at "rok"
    have nH : H p3 = none := by
      cases e : H p3 with
      | none => rfl
      | some u =>
        have := (o2.get ne3 ((s1 _ _ e)))
        rw [this] at n3; cases n3
    refine f_wk wk_range (fun i σ H' => Off r H H' ∧ Rok H' r ∧ ∃ (ws : List (Int × Option Int)) (xs : List V) (lo : Int) (o : Option Int) (y : Option V), WLs K H' r p3 ws ∧ H' p3 = some (.lst xs) ∧ ws.length = i ∧ (∀ w ∈ ws, small w) ∧ 0 ≤ lo ∧ lo ≤ 2 * i ∧ (∀ h, o = some h → lo ≤ h ∧ h ≤ 2 + 3 * i) ∧
      σ = [some (.ref r), some (.int m), some (.int l), some (.int lo), some (hiV o), some (.ref p3), y]) ⟨off3, r3, [], [], 0, o, _, ⟨ne3, [], e3, .nil⟩, e3, rfl, by simp, Int.le_refl _, Int.le_refl _, fun h z => by have := ho h z; omega, rfl⟩ (fun _ _ _ _ => trivial) (fun i x σ H' hx h => ?_) (fun σ H' h => ?_)
    · obtain ⟨oH, rH, ws, xs, lo, o, y, hw, eL, wl, sm, lo0, lo1, hi, rfl⟩ := h
      have hi50 : i < 50 := by
        have := (List.getElem?_eq_some_iff.mp hx).1
        rw [rangeV_len] at this
        omega
      have xl := hw.len eL
      have xlt : xs.length < sizeLine := by rw [sizeLine_eq, xl, wl]; omega
      repeat (walk_at "st")
      refine i_new fun p4 G4 n4 s4 e4 => ?_
      have e4L := s4 _ _ eL
      repeat (walk_at "st")
      refine i_put fun G5 o5 e5 => ?_
      have hw5 : WLs K G5 r p3 (ws ++ [(lo, o)]) := WLs.app (hw.off (.of_same s4)) e4L o5 e5 (da_win2 (w := (lo, o)) (ne_of_none eL n4).symm (by walk_at "ne") e4)
      have sm5 : ∀ w ∈ ws ++ [(lo, o)], small w := fun w hw => by
        rcases List.mem_append.mp hw with hw | hw
        · exact sm w hw
        · rw [List.mem_singleton.mp hw]
          exact ⟨⟨lo0, fun h z => (hi h z).1⟩, by dsimp only; omega, fun h z => by have := (hi h z).2; omega⟩
      have r5 : Rok G5 r := (rH.same s4).off o5 ne3.symm
      have wl5 : (ws ++ [(lo, o)]).length = i + 1 := by simp [wl]
      have off5 : Off r H G5 := fun c u n e => o5 c u (ne_of_none e nH) (s4 _ _ (oH c u n e))
      repeat (walk_at "st")
      refine i_new fun p6 G6 n6 s6 e6 => ?_
      repeat (walk_at "st")
      refine ⟨_, _, rfl, (by walk_at "side"), (by first | decide | decide +kernel | assumption), (by walk_at "rok"), fun d7 G7 dl7 dh7 r7 o7 => ?_⟩
      obtain ⟨v7, hv7, ev7⟩ := atI_lt (xs := [V.int 0, V.int 0, V.int (1 - l), V.int 1, V.int (2 - l)]) dl7 dh7
      have k7 : ∃ k : Int, v7 = .int k ∧ 0 ≤ k ∧ k ≤ 2 := by
        simp only [List.mem_cons, List.not_mem_nil, or_false] at hv7
        rcases hv7 with rfl | rfl | rfl | rfl | rfl <;> exact ⟨_, rfl, by omega, by omega⟩
      obtain ⟨k, rfl, k0, k1⟩ := k7
      have hw7 := (hw5.off (.of_same s6)).off o7
      have e7 : G7 p3 = some (.lst (xs ++ [V.ref p4])) := o7.get ne3 (s6 _ _ e5)
      have off7 : Off r H G7 := off5.trans ((Off.of_same s6).trans o7)
      repeat (walk_at "st")
      have ne6 : p6 ≠ r := by walk_at "ne"
      refine i_rIxL (SqL.of (o7.get ne6 e6)) ev7 ?_
      repeat (walk_at "st")
      cases o with
      | none =>
        repeat (walk_at "st")
        refine i_ff (by rfl) ?_
        repeat (walk_at "st")
        exact ⟨_, _, _, none, _, hw7, e7, wl5, sm5, by omega, by omega, (fun h z => by cases z), rfl⟩
      | some hh =>
        have hhi := hi hh rfl
        repeat (walk_at "st")
        refine i_tt (by rfl) ?_
        dsimp only [hiV]
        repeat (walk_at "st")
        refine i_new fun p8 G8 n8 s8 e8 => ?_
        repeat (walk_at "st")
        refine ⟨_, _, rfl, (by walk_at "side"), (by first | decide | decide +kernel | assumption), (by walk_at "rok"), fun d9 G9 dl9 dh9 r9 o9 => ?_⟩
        obtain ⟨v9, hv9, ev9⟩ := atI_lt (xs := [V.int l, V.int 1, V.int 1, V.int 2]) dl9 dh9
        have k9 : ∃ k : Int, v9 = .int k ∧ 0 ≤ k ∧ k ≤ 2 := by
          simp only [List.mem_cons, List.not_mem_nil, or_false] at hv9
          rcases hv9 with rfl | rfl | rfl | rfl <;> exact ⟨_, rfl, by omega, by omega⟩
        obtain ⟨k', rfl, k0', k1'⟩ := k9
        repeat (walk_at "st")
        refine ⟨_, _, rfl, (by walk_at "side"), (by first | decide | decide +kernel | assumption), (by walk_at "rok"), fun d10 G10 dl10 dh10 r10 o10 => ?_⟩
        have hw10 := (hw7.off (.of_same s8)).off (o9.trans o10)
        have e10 : G10 p3 = some (.lst (xs ++ [V.ref p4])) := o10.get ne3 (o9.get ne3 (s8 _ _ e7))
        have off10 : Off r H G10 := off7.trans ((Off.of_same s8).trans (o9.trans o10))
        repeat (walk_at "st")
        refine i_ite (fun e => ?_) (fun e => ?_)
        · repeat (walk_at "st")
          exact ⟨_, _, _, none, _, hw10, e10, wl5, sm5, by omega, by omega, (fun h z => by cases z), rfl⟩
        · repeat (walk_at "st")
          exact ⟨_, _, _, some _, _, hw10, e10, wl5, sm5, by omega, by omega, (fun h z => by cases z; split <;> omega), rfl⟩
    · obtain ⟨oH, rH, ws, xs, lo, o, y, hw, eL, wl, sm, lo0, lo1, hi, rfl⟩ := h
      rw [rangeV_len] at wl
      repeat (walk_at "st")
      exact q p3 ws _ hw (by rw [wl]; omega) sm nH oH rH
def moveW (f : Int) (w : Int × Option Int) : Int × Option Int := (w.1 + f, w.2.map (· + f))
def sp_l_moved (K : PySem.W.Frag) : Sp := fun vs H Q _ => ∃ (v : V) (ws : List (Int × Option Int)) (f : Int), vs = [v, .int f] ∧ Da K H v (.list (ws.map winD)) ∧ ws.length ≤ 1000 ∧
  ∀ a ys H', H a = none → Same H H' → H' a = some (.lst ys) → DaAll K (wo a (newP H H')) ys ((ws.map (moveW f)).map winD) → Q (.ref a) H'
theorem range_map {α β : Type} (l : List α) (d : α) (f : α → β) : (List.range l.length).map (fun i => f (l.getD i d)) = l.map f := by
  apply List.ext_getElem
  · simp
  · intro i h1 h2
    simp at h1
    simp [h1]
theorem ok_l_moved (T : Txt K mg A) : Fg P w K mg base CX0 1 A.f_l_moved A.d_l_moved ["_law_some", "_law_far"] (sp_l_moved K) := by
  refine ok_g T.F_l_moved sc_l_moved (fun vs H Q E h => ?_) (fun cdv Ar outer s H vs Q E hr h => ?_)
  · obtain ⟨_, _, _, rfl, _⟩ := h; rfl
  · obtain ⟨v, ws, f, rfl, hd, hl, q⟩ := h
    refine ⟨_, (pss_one (ps_ret (pe_lc (own := [("_law_one", 2)]) rfl sc_l_moved.nd (pi_list (pv 0)) (blkOk_by (own := [("_law_one", 2)]) (N := ["_law_some", "_law_far", "_law_one"]) (sc := defScope s_l_moved) (by decide +kernel)) (fun _ _ _ _ _ => (pg_name (i := 2) sc_l_moved.nd rfl (.inl rfl))) (fun _ _ _ _ _ => pts_nil) (fun _ _ _ _ _ => (pe_tup (pa_cons (pe_op op_add (pe_ix (ix_tupK (K := K) (by rfl)) (pv 2) pe_int (fun _ _ => rfl)) (pv 1)) (pa_cons (pe_ifExp (pt_cmpR op_isNN (pe_ix (ix_tupK (K := K) (by rfl)) (pv 2) pe_int (fun _ _ => rfl)) pe_non (nomark _)) pe_non (pe_op op_add (pe_ix (ix_tupK (K := K) (by rfl)) (pv 2) pe_int (fun _ _ => rfl)) (pv 1))) pa_nil))))))), ?_⟩
    obtain ⟨a, xs, ds, rfl, e, hq, ha⟩ := da_list hd rfl
    cases e
    have ll : xs.length = ws.length := by rw [ha.len]; simp
    repeat (walk_at "st")
    refine ⟨⟨_, hq⟩, ?_⟩
    refine l_dq (K := K) (b := false) wk_list.q (fun i => winD (moveW f (ws.getD i (0, none)))) (by rw [ll, sizeLine_eq]; omega) (fun H' s => Same.seq s hq) (fun i x H' S D zs hi hr s1 nD eD hS => ?_) (fun D H' ys n1 s1 e1 d1 => ?_)
    · obtain ⟨d2, hd2, k2⟩ := da_get ha hr
      obtain ⟨w, hw, rfl⟩ := wins_get hd2
      have hg : ws.getD i (0, none) = w := by rw [List.getD_eq_getElem?_getD, hw]; rfl
      rw [hg] at hS
      obtain ⟨b, rfl, hT⟩ := da_win (k2.same s1)
      obtain ⟨l, o⟩ := w
      have fin : ∀ (p : Addr) (H'' : Hp), H' p = none → Same H' H'' → H'' p = some (.tup [.int (l + f), hiV (o.map (· + f))]) → S (.ref p) H'' := fun p H'' np sp ep => by
        refine hS _ _ sp (da_winT (w := moveW f (l, o)) (SqT.of ?_)).da
        have pD : p ≠ D := (ne_of_none eD np).symm
        rw [wo_get pD, newP_get (none_of s1 np)]
        exact ep
      cases o with
      | none =>
        have hT : SqT K H' b [.int l, .non] := hT
        repeat (walk_at "st")
        refine i_tt (by rfl) ?_
        repeat (walk_at "st")
        refine i_new fun p3 G3 n3 s3 e3 => ?_
        exact fin _ _ n3 s3 e3
      | some k =>
        have hT : SqT K H' b [.int l, .int k] := hT
        repeat (walk_at "st")
        refine i_ff (by rfl) ?_
        repeat (walk_at "st")
        refine i_new fun p3 G3 n3 s3 e3 => ?_
        exact fin _ _ n3 s3 e3
    · have e : (List.range ws.length).map (fun i => winD (moveW f (ws.getD i (0, none)))) = ws.map fun w => winD (moveW f w) := range_map ws (0, none) fun w => winD (moveW f w)
      rw [ll, e] at d1
      exact q D ys H' n1 s1 e1 (by rw [List.map_map]; exact d1)
def sp_l_replaced (K : PySem.W.Frag) : Sp := fun vs H Q _ => ∃ (r a : Addr) (ws : List (Int × Option Int)), vs = [.ref r, .ref a] ∧ WLs K H r a ws ∧ Rok H r ∧ ws.length ≤ 100 ∧
  ∀ p ws' H', H p = none → WLs K H' r p ws' → ws'.length = ws.length → (∀ w ∈ ws', w ∈ ws ∨ small w) → Off r H H' → Rok H' r → Q (.ref p) H'
theorem ok_l_replaced (T : Txt K mg A) (G_l_draw : Fg P w K mg base CX0 1 A.f_l_draw A.d_l_draw ["_law_rng_here", "_law_many"] sp_l_draw) : Fg P w K mg base CX0 2 A.f_l_replaced A.d_l_replaced ["_law_rng_here", "_law_some"] (sp_l_replaced K) := by
  refine ok_g T.F_l_replaced sc_l_replaced (fun vs H Q E h => ?_) (fun cdv Ar outer s H vs Q E hr h => ?_)
  · obtain ⟨_, _, _, rfl, _⟩ := h; rfl
  · obtain ⟨r, a, ws, rfl, hw, hR, hl, q⟩ := h
    refine ⟨_, (pss_cons (ps_set (i := 2) sc_l_replaced.nd rfl (.inl rfl) (pe_callTy call_listN (by rfl) T.m_list (by decide +kernel) (pa_cons (pv 1) pa_nil)))
(pss_cons (ps_for PassesOwn.never rfl (pi_range1 rfl T.m_range (pa_cons (pe_op op_mul (pe_call G_l_draw (hr.mono (by decide)) (by rfl) T.g_l_draw T.F_l_draw.kp T.b_l_draw .nil pass0 (pa_cons (pv 0) (pa_cons pe_int pa_nil))) (pe_callTy call_intB (by rfl) T.m_int (by decide +kernel) (pa_cons (pe_cmpR (op_neD hr.room.units) (pv 2) (pe_lst pa_nil) (nomark _)) pa_nil))) pa_nil)) (pg_name (i := 3) sc_l_replaced.nd rfl (.inl rfl))
(pss_cons (ps_set (i := 4) sc_l_replaced.nd rfl (.inl rfl) (pe_call G_l_draw (hr.mono (by decide)) (by rfl) T.g_l_draw T.F_l_draw.kp T.b_l_draw .nil pass0 (pa_cons (pv 0) (pa_cons pe_int pa_nil))))
(pss_one (ps_asg (pe_tup (pa_cons (pv 4) (pa_cons (pe_ix ix_list (pe_lst (pa_cons pe_non (pa_cons (pv 4) (pa_cons (pe_op op_add (pv 4) (pe_call G_l_draw (hr.mono (by decide)) (by rfl) T.g_l_draw T.F_l_draw.kp T.b_l_draw .nil pass0 (pa_cons (pv 0) (pa_cons pe_int pa_nil)))) pa_nil)))) (pe_call G_l_draw (hr.mono (by decide)) (by rfl) T.g_l_draw T.F_l_draw.kp T.b_l_draw .nil pass0 (pa_cons (pv 0) (pa_cons pe_int pa_nil))) (fun _ _ => rfl)) pa_nil))) (pg_sub (pv 2) (pe_call G_l_draw (hr.mono (by decide)) (by rfl) T.g_l_draw T.F_l_draw.kp T.b_l_draw .nil pass0 (pa_cons (pv 0) (pa_cons (pe_callB call_lenN (by rfl) T.m_len (by decide +kernel) (pa_cons (pv 2) pa_nil)) pa_nil))) set_list)))))
(pss_one (ps_ret (pv 2))))), ?_⟩
    obtain ⟨nar, xs, eL, dL⟩ := id hw
    have xl := hw.len eL
    have sqa : SqL K H a xs := SqL.of eL
    repeat (walk_at "st")
    refine i_new fun p1 G1 n1 s1 e1 => ?_
    have ne1 : p1 ≠ r := by walk_at "ne"
    have hw1 : WLs K G1 r p1 ws := ⟨ne1, xs, e1, dL.same (wo_new n1 s1)⟩
    repeat (walk_at "st")
    refine ⟨_, _, rfl, (by walk_at "side"), (by first | decide | decide +kernel | assumption), (by walk_at "rok"), fun d2 G2 dl2 dh2 r2 o2 => ?_⟩
    have hw2 := hw1.off o2
    repeat (walk_at "st")
    refine i_new fun p3 G3 n3 s3 e3 => ?_
    refine i_neD (hw2.off (.of_same s3)).da (Da.lst (SqL.of e3) .nil) (nd_wins ws) rfl (shaped_wins ws) rfl ?_
    rw [eqv_nil]
    repeat (walk_at "st")
    have hk : ∃ k : Int, (if (!(List.map winD ws).isEmpty) = true then (1 : Int) else 0) = k ∧ 0 ≤ d2 * k ∧ d2 * k ≤ 2 ∧ (0 < d2 * k → 0 < ws.length) := by
      cases ws with
      | nil => exact ⟨0, rfl, by omega, by omega, by omega⟩
      | cons w ws => exact ⟨1, rfl, by omega, by omega, by simp⟩
    obtain ⟨k, ek, k0, k1, kw⟩ := hk
    rw [ek]
    generalize d2 * k = m at *
    refine ⟨by omega, by omega, ?_⟩
    have off3 : Off r H G3 := by walk_at "off"
    have r3 : Rok G3 r := by walk_at "rok"
    have e3L : G3 p1 = some (.lst xs) := s3 _ _ (o2.get ne1 e1)
    refine f_wk wk_range (fun i σ H' => Off r H H' ∧ Rok H' r ∧ ∃ (ws' : List (Int × Option Int)) (xs : List V) (y3 y4 : Option V), WLs K H' r p1 ws' ∧ H' p1 = some (.lst xs) ∧ ws'.length = ws.length ∧ (∀ w ∈ ws', w ∈ ws ∨ small w) ∧ σ = [some (.ref r), some (.ref a), some (.ref p1), y3, y4])
      ⟨off3, r3, ws, xs, _, _, hw2.off (.of_same s3), e3L, rfl, fun w hw => .inl hw, rfl⟩ (fun _ _ _ _ => trivial) (fun i x σ H' hx h => ?_) (fun σ H' h => ?_)
    · obtain ⟨oH, rH, ws', xs', y3, y4, hw', eL', wl, sm, rfl⟩ := h
      have wpos : 0 < ws.length := kw (by
        have := (List.getElem?_eq_some_iff.mp hx).1
        rw [rangeV_len] at this
        omega)
      have xl' := hw'.len eL'
      have lb : (xs'.length : Int).natAbs.log2 < 9000 := Nat.lt_of_le_of_lt (Nat.log2_le_self _) (by omega)
      repeat (walk_at "st")
      refine ⟨_, _, rfl, (by walk_at "side"), (by first | decide | decide +kernel | assumption), (by walk_at "rok"), fun d4 G4 dl4 dh4 r4 o4 => ?_⟩
      repeat (walk_at "st")
      refine ⟨_, _, rfl, (by walk_at "side"), (by first | decide | decide +kernel | assumption), (by walk_at "rok"), fun d5 G5 dl5 dh5 r5 o5 => ?_⟩
      repeat (walk_at "st")
      refine i_new fun p6 G6 n6 s6 e6 => ?_
      repeat (walk_at "st")
      refine ⟨_, _, rfl, (by walk_at "side"), (by first | decide | decide +kernel | assumption), (by walk_at "rok"), fun d7 G7 dl7 dh7 r7 o7 => ?_⟩
      obtain ⟨v7, hv7, ev7⟩ := atI_lt (xs := [V.non, V.int d4, V.int (d4 + d5)]) dl7 dh7
      have k7 : ∃ o : Option Int, v7 = hiV o ∧ ∀ h, o = some h → d4 ≤ h ∧ h ≤ d4 + 10 := by
        simp only [List.mem_cons, List.not_mem_nil, or_false] at hv7
        rcases hv7 with rfl | rfl | rfl
        · exact ⟨none, rfl, fun h z => by cases z⟩
        · exact ⟨some d4, rfl, fun h z => by cases z; omega⟩
        · exact ⟨some (d4 + d5), rfl, fun h z => by cases z; omega⟩
      obtain ⟨o, rfl, ho⟩ := k7
      repeat (walk_at "st")
      refine i_new fun p8 G8 n8 s8 e8 => ?_
      have e8L : G8 p1 = some (.lst xs') := s8 _ _ (o7.get ne1 (s6 _ _ (o5.get ne1 (o4.get ne1 eL'))))
      repeat (walk_at "st")
      refine ⟨_, _, rfl, (by walk_at "side"), (by first | decide | decide +kernel | assumption), (by walk_at "rok"), fun d9 G9 dl9 dh9 r9 o9 => ?_⟩
      have e9L : G9 p1 = some (.lst xs') := o9.get ne1 e8L
      have ix : ixN xs'.length d9 = some d9.toNat := by
        unfold ixN
        rw [if_pos dl9, if_pos dh9]
      refine i_rSetL e9L ix ?_
      refine i_put fun G10 o10 e10 => ?_
      have hw9 : WLs K G9 r p1 ws' := (((((hw'.off o4).off o5).off (.of_same s6)).off o7).off (.of_same s8)).off o9
      have ne8 : p8 ≠ r := (r7.ne n8)
      have ne81 : p8 ≠ p1 := (ne_of_none (o7.get ne1 (s6 _ _ (o5.get ne1 (o4.get ne1 eL')))) n8).symm
      have hw10 := WLs.set (w := (d4, o)) hw9 e9L o10 e10 (da_win2 ne81 ne8 (o9.get ne8 e8))
      have off9 : Off r H G9 := oH.trans (o4.trans (o5.trans ((Off.of_same s6).trans (o7.trans ((Off.of_same s8).trans o9)))))
      refine ⟨fun c u n e => o10 c u (ne_of_none e n1) (off9 c u n e), r9.off o10 ne1.symm, _, _, _, _, hw10, e10, by rw [List.length_set]; exact wl, fun w hw => ?_, rfl⟩
      rcases List.mem_or_eq_of_mem_set hw with z | z
      · exact sm w z
      · rw [z]
        exact .inr ⟨⟨dl4, fun h z => (ho h z).1⟩, by dsimp only; omega, fun h z => by have := (ho h z).2; omega⟩
    · obtain ⟨oH, rH, ws', xs', y3, y4, hw', eL', wl, sm, rfl⟩ := h
      repeat (walk_at "st")
      exact q p1 ws' _ n1 hw' wl sm oH rH
end
end KX

namespace KX
open PySem PySem.Spec PyProof.Rows L2

local macro_rules | `(tactic| walk_at "kp") => `(tactic| first
  | with_reducible exact Kp.refl
  | with_reducible exact Kp.thenS (by assumption) (by walk_at "kp")
  | with_reducible exact Kp.thenO (by assumption) (by walk_at "ne") (by walk_at "kp")
  | fail)
local macro_rules | `(tactic| walk_at "hq") => `(tactic| first
  | assumption
  | with_reducible exact Kp.get (by assumption) (by walk_at "kp")
  | fail)
local macro_rules | `(tactic| walk_at "hg") => `(tactic| first
  | walk_at "hq"
  | exact upd_same
  | with_reducible exact (upd_ne (by walk_at "ne")).trans (by walk_at "hg")
  | with_reducible exact Same.get (by assumption) (by walk_at "hg")
  | with_reducible exact Off.get (by assumption) (by walk_at "ne") (by walk_at "hg")
  | fail)
local macro_rules | `(tactic| walk_at "ne") => `(tactic| first
  | assumption
  | (apply Ne.symm; assumption)
  | exact Rok.ne' (by assumption) (by walk_at "rok")
  | exact (Rok.ne' (by assumption) (by walk_at "rok")).symm
  | exact ne_some (by assumption) (by walk_at "hg")
  | exact (ne_some (by assumption) (by walk_at "hg")).symm
  | fail)
local macro_rules | `(tactic| walk_at "rok") => `(tactic| first
  | assumption
  | with_reducible exact Rok.kp (by assumption) (by walk_at "kp")
  | with_reducible exact Rok.same (by assumption) (by walk_at "rok")
  | fail)
local macro_rules | `(tactic| walk_at "sq") => `(tactic| first
  | assumption
  | exact Same.seq (by assumption) (by assumption)
  | with_reducible exact SqL.of (by walk_at "hg")
  | with_reducible exact SqT.of (by walk_at "hg")
  | fail)
local macro_rules | `(tactic| walk_at "dac") => `(tactic| first
  | assumption
  | exact DaF.same (by assumption) (by walk_at "dac")
  | fail)
local macro_rules | `(tactic| walk_at "da") => `(tactic| first
  | exact (DaF.non : DaS _ _ _ _)
  | exact (DaF.bl _ : DaS _ _ _ _)
  | exact (DaF.int _ : DaS _ _ _ _)
  | exact (DaF.str _ : DaS _ _ _ _)
  | exact DaF.non
  | exact DaF.bl _
  | exact DaF.int _
  | exact DaF.str _
  | walk_at "dac"
  | with_reducible exact DaF.lst (SqL.of (by walk_at "hq")) (fun _ => by assumption) (by walk_at "das")
  | with_reducible exact Da.lst (SqL.of (by walk_at "hq")) (by walk_at "das")
  | with_reducible exact DaF.tup (SqT.of (by walk_at "hq")) (by walk_at "das")
  | with_reducible exact DaF.dic (Rd.of (by walk_at "hq")) (by walk_at "dak")
  | fail)
local macro_rules | `(tactic| walk_at "das") => `(tactic| first
  | assumption
  | exact DaAllF.nil
  | exact DaAllF.cons (by walk_at "da") (by walk_at "das")
  | fail)
local macro_rules | `(tactic| walk_at "dak") => `(tactic| first
  | assumption
  | exact DaKvF.nil
  | exact DaKvF.cons (by walk_at "da") (by walk_at "dak")
  | fail)
local macro_rules | `(tactic| walk_at "shw") => `(tactic| first
  | assumption
  | exact shw_b2 _ _
  | exact ⟨by decide +kernel, by decide +kernel, by decide +kernel⟩
  | fail)
local macro_rules | `(tactic| walk_at "nod") => `(tactic| first
  | exact .inl rfl
  | exact .inr rfl
  | assumption
  | exact .inr (by assumption)
  | fail)
local macro_rules | `(tactic| walk_at "okd") => `(tactic| first
  | assumption
  | exact okd_of (by decide +kernel)
  | fail)
local macro_rules | `(tactic| walk_at "off") => `(tactic| first
  | assumption
  | exact Off.refl _ _
  | exact Same.refl _
  | with_reducible exact Same.thenS (by assumption) (by walk_at "off")
  | with_reducible exact Off.thenS (by assumption) (by walk_at "off")
  | with_reducible exact Off.thenO (by assumption) (by walk_at "off")
  | with_reducible exact Same.thenF (by assumption) (by assumption) (by walk_at "off") (by walk_at "off")
  | with_reducible exact Off.thenF (by assumption) (by assumption) (by walk_at "off") (by walk_at "off")
  | fail)
local macro_rules | `(tactic| walk_at "side") => `(tactic| first
  | assumption
  | omega
  | decide
  | (simp only [List.length_cons, List.length_nil]; decide)
  | exact ⟨by omega, by omega⟩
  | exact ⟨by omega, PyProof.noPylong_of_log2 (by first | assumption | decide)⟩
  | exact .inl ⟨by omega, by omega⟩
  | exact .inr ⟨by omega, by omega⟩
  | exact ⟨by decide, by decide, by decide⟩
  | exact ⟨by decide, by decide, by omega⟩
  | fail)
local macro_rules | `(tactic| walk_at "st") => `(tactic| first
  | with_reducible refine i_seq ?_
  | with_reducible refine i_bi ?_
  | with_reducible refine i_raise ?_
  | with_reducible refine i_callX ?_
  | with_reducible refine i_tryN ?_
  | with_reducible refine i_isNon ?_
  | with_reducible refine i_isNotNon ?_
  | ((with_reducible refine' i_split ?h ?z ?_); (case h => rfl); (case z => walk_at "side"))
  | with_reducible refine i_find ?_
  | ((with_reducible refine i_strI ?h ?_); (case h => walk_at "side"))
  | with_reducible refine i_fmt ?_
  | ((with_reducible refine i_fmS ?h ?_); (case h => walk_at "side"))
  | ((with_reducible refine i_fmI ?h ?_); (case h => walk_at "side"))
  | with_reducible refine i_jn ?_
  | with_reducible refine i_js0 ?_
  | with_reducible refine i_js1 ?_
  | ((with_reducible refine i_jsR ?h ?_); (case h => walk_at "side"))
  | with_reducible refine i_revS ?_
  | ((with_reducible refine i_exrev ?h ?_); (case h => walk_at "side"))
  | with_reducible refine i_revL ?_
  | ((with_reducible refine' i_exrevL ?h ?_); (case h => walk_at "sq"))
  | with_reducible refine i_par3 ?_
  | with_reducible refine i_ex3 ?_
  | with_reducible refine i_stB ?_
  | with_reducible refine i_mk0 ?_
  | with_reducible refine i_asg ?_
  | with_reducible refine i_c ?_
  | ((with_reducible refine' i_var ?h ?_); (case h => rfl))
  | with_reducible refine i_op ?_
  | with_reducible refine i_cons ?_
  | with_reducible refine i_nil ?_
  | ((with_reducible refine' i_gName ?h ?_); (case h => rfl))
  | with_reducible refine i_rI0 ?_
  | ((with_reducible refine i_rI ?h ?_); (case h => walk_at "side"))
  | with_reducible refine i_test ?_
  | with_reducible refine i_exbl ?_
  | with_reducible refine i_exint ?_
  | with_reducible refine i_exs ?_
  | with_reducible refine i_ret ?_
  | with_reducible refine i_next ?_
  | with_reducible refine i_ifS ?_
  | ((with_reducible refine' i_rIxL ?h ?e ?_); (case h => walk_at "sq"); (case e => first | assumption | rfl))
  | ((with_reducible refine' i_rIxT ?h ?e ?_); (case h => walk_at "sq"); (case e => first | assumption | rfl))
  | ((with_reducible refine' i_rIxS ?h ?e ?_); (case h => walk_at "side"); (case e => first | assumption | rfl))
  | with_reducible refine i_un ?_
  | with_reducible refine i_rU ?_
  | ((with_reducible refine i_rEqSame ?h ?_); (case h => rfl))
  | ((with_reducible refine i_rNeSame ?h ?_); (case h => rfl))
  | ((with_reducible refine i_rEq ?h ?_); (case h => rfl))
  | ((with_reducible refine i_rNe ?h ?_); (case h => rfl))
  | with_reducible refine i_tB ?_
  | with_reducible refine i_and ?_
  | with_reducible refine i_or ?_
  | with_reducible refine i_not ?_
  | with_reducible refine i_andV ?_
  | with_reducible refine i_orV ?_
  | with_reducible refine i_notV ?_
  | with_reducible refine i_if ?_
  | with_reducible refine i_chain ?_
  | with_reducible refine i_drop ?_
  | with_reducible refine i_retN ?_
  | with_reducible refine i_par ?_
  | with_reducible refine i_ex2 ?_
  | ((with_reducible refine' i_aug ?h ?_); (case h => rfl))
  | with_reducible refine i_gNil ?_
  | with_reducible refine i_gCons ?_
  | ((with_reducible refine' i_gTup ?h ?e ?_); (case h => walk_at "sq"); (case e => rfl))
  | with_reducible refine i_gSub ?_
  | ((with_reducible refine' i_rSetL ?h ?e ?_); (case h => walk_at "hg"); (case e => first | assumption | rfl))
  | with_reducible refine i_tup ?_
  | with_reducible refine i_lst ?_
  | with_reducible refine i_lstN ?_
  | with_reducible refine i_newDK ?_
  | with_reducible refine i_disp ?_
  | with_reducible refine i_pairs0 ?_
  | with_reducible refine i_pairs1 ?_
  | with_reducible refine i_call ?_
  | with_reducible refine i_cb ?_
  | with_reducible refine i_bm ?_
  | with_reducible refine i_m1 ?_
  | with_reducible refine i_m0 ?_
  | ((with_reducible refine' i_rAppend ?h ?e ?_); (case h => walk_at "hg"); (case e => walk_at "side"))
  | ((with_reducible refine i_rSlS ?h ?_); (case h => walk_at "side"))
  | ((with_reducible refine' i_rSlL ?h ?_); (case h => walk_at "sq"))
  | with_reducible refine i_sl ?_
  | with_reducible refine i_noPart ?_
  | with_reducible refine i_part ?_
  | with_reducible refine i_rng1 ?_
  | with_reducible refine i_iList ?_
  | with_reducible refine i_iStr ?_
  | with_reducible refine i_iEnum ?_
  | with_reducible refine i_iZip ?_
  | with_reducible refine i_ez ?_
  | ((with_reducible refine' i_exen ?h ?_); (case h => walk_at "sq"))
  | ((with_reducible refine' i_exz ?h ?k ?_); (case h => walk_at "sq"); (case k => walk_at "sq"))
  | ((with_reducible refine' i_listN ?h ?_); (case h => walk_at "sq"))
  | with_reducible refine i_intB ?_
  | ((with_reducible refine' i_tyL ?h ?_); (case h => walk_at "sq"))
  | with_reducible refine i_isBl ?_
  | ((with_reducible refine i_callW ?_))
  | ((with_reducible refine i_exrng ?h1 ?h2 ?_); (case h1 => walk_at "side"); (case h2 => walk_at "side"))
  | ((with_reducible refine' i_exl ?h ?_); (case h => walk_at "sq"))
  | with_reducible refine i_for ?_
  | with_reducible refine i_lc ?_
  | with_reducible refine i_yes ?_
  | with_reducible refine i_iteT ?_
  | with_reducible refine i_iteF ?_
  | ((with_reducible refine i_divmod ?h ?_); (case h => walk_at "side"))
  | ((with_reducible refine' i_isi ?h ?e ?_); (case h => walk_at "da"); (case e => decide))
  | ((with_reducible refine i_lenS ?h ?_); (case h => walk_at "side"))
  | ((with_reducible refine' i_lenL ?h ?_); (case h => walk_at "sq"))
  | ((with_reducible refine' i_lenT ?h ?_); (case h => walk_at "sq"))
  | ((with_reducible refine' i_repr ?h ?n ?e ?_); (case h => walk_at "da"); (case n => walk_at "nod"); (case e => walk_at "shw"))
  | ((with_reducible refine' i_rCat ?h ?e ?z ?_); (case h => walk_at "hg"); (case e => walk_at "hg"); (case z => walk_at "side"))
  | ((with_reducible refine i_rCatS ?h ?_); (case h => walk_at "side"))
  | with_reducible refine i_exstr ?_
  | ((with_reducible refine' i_join ?h ?z ?_); (case h => walk_at "sq"); (case z => walk_at "side"))
  | with_reducible refine i_abs ?_
  | with_reducible refine i_max ?_
  | with_reducible refine i_min ?_
  | ((with_reducible refine' i_rAll ?h ?_); (case h => walk_at "sq"))
  | ((with_reducible refine' i_lcEl ?h ?e ?_); (case h => walk_at "hg"); (case e => walk_at "side"))
  | with_reducible refine ⟨_, _, rfl, rfl, ?_⟩
  | with_reducible refine ⟨_, _, rfl, ?_⟩
  | with_reducible refine ⟨_, rfl, ?_⟩
  | with_reducible refine And.intro rfl ?_
  | ((with_reducible refine And.intro ?h ?_); (case h => walk_at "side"))
  | fail)

section
variable {P : Program} {w : World} {K : PySem.W.Frag} {mg : Str → Option Value} {base : Heap} {A : Ad}
def sp_l_list_right (K : PySem.W.Frag) : Sp := fun vs H Q _ => ∃ (r a : Addr) (ws : List (Int × Option Int)), vs = [.ref r, .ref a] ∧ WLs K H r a ws ∧ Rok H r ∧ ws.length ≤ 100 ∧ (∀ w ∈ ws, W60 w) ∧
  ∀ H', Off r H H' → Rok H' r → Q (.bl true) H'
theorem top_reach {w : Int × Option Int} {n : Int} (h : n < 10 ^ Int.toNat 64) : decide (topW w ≥ n) = reachW w n := by
  obtain ⟨l, o⟩ := w
  unfold topW reachW
  cases o with
  | none => exact decide_eq_true (Int.le_of_lt h)
  | some z => rfl
theorem ok_l_list_right (T : Txt K mg A) (G_l_draw : Fg P w K mg base CX0 1 A.f_l_draw A.d_l_draw ["_law_rng_here", "_law_many"] sp_l_draw) (G_l_top : Fg P w K mg base CX0 1 A.f_l_top A.d_l_top ["_law_one"] (sp_l_top K)) (G_l_falls : Fg P w K mg base CX0 2 A.f_l_falls A.d_l_falls ["_law_one", "_law_other"] (sp_l_falls K)) (G_l_first : Fg P w K mg base CX0 1 A.f_l_first A.d_l_first ["_law_flags"] (sp_l_first K)) (G_contains : FnOk P w K mg base (L2.CX P w) 5 A.f_contains A.d_contains ["window", "version"] (sp_cont K A.c_InvalidWindow A.c_InvalidVersion)) (G_rises : FnOk P w K mg base (L2.CX P w) 5 A.f_rises A.d_rises ["first", "second"] (sp_rises K A.c_InvalidWindow))
    (G_first_falling : FnOk P w K mg base (L2.CX P w) 6 A.f_first_falling A.d_first_falling ["windows"] (sp_ff K A.c_InvalidWindows)) (G_least_reaching : FnOk P w K mg base (L2.CX P w) 7 A.f_least_reaching A.d_least_reaching ["windows", "version"] (sp_least K A.c_InvalidWindows A.c_InvalidVersion)) : Fg P w K mg base CX0 8 A.f_l_list_right A.d_l_list_right ["_law_rng_here", "_law_some"] (sp_l_list_right K) := by
  refine ok_g T.F_l_list_right sc_l_list_right (fun vs H Q E h => ?_) (fun cdv Ar outer s H vs Q E hr h => ?_)
  · obtain ⟨_, _, _, rfl, _⟩ := h; rfl
  · obtain ⟨r, a, ws, rfl, hw, hR, hl, hws, q⟩ := h
    refine ⟨_, (pss_cons (ps_set (i := 2) sc_l_list_right.nd rfl (.inl rfl) (pe_callTy call_listN (by rfl) T.m_list (by decide +kernel) (pa_cons (pv 1) pa_nil)))
(pss_cons (ps_set (i := 3) sc_l_list_right.nd rfl (.inl rfl) (pe_op op_cat (pe_lst (pa_cons pe_bl pa_nil)) (pe_lc (own := [("_law_one", 9), ("_law_other", 10)]) (g := (gTup K 2 (gCons (gName 9) (gCons (gName 10) gNil)))) rfl sc_l_list_right.nd (pi_zip (by rfl) T.m_zip (pa_cons (pv 1) (pa_cons (pe_slice sl_list (pv 1) (po_some pe_int) po_none) pa_nil))) (blkOk_by (own := [("_law_one", 9), ("_law_other", 10)]) (N := ["_law_rng_here", "_law_some", "_law_kept", "_law_flags", "_law_due", "_law_numbers", "_law_number", "_law_found", "_law_told", "_law_one", "_law_other", "_law_flag"]) (sc := defScope s_l_list_right) (by decide +kernel)) (fun _ _ _ _ _ => (pg_tup rfl (pgs_cons (pg_name (i := 9) sc_l_list_right.nd rfl (.inl rfl)) (pgs_cons (pg_name (i := 10) sc_l_list_right.nd rfl (.inl rfl)) pgs_nil)))) (fun _ _ _ _ _ => pts_nil) (fun _ _ _ _ _ => (pe_call G_l_falls (hr.mono (by decide)) (by rfl) T.g_l_falls T.F_l_falls.kp T.b_l_falls .nil pass0 (pa_cons (pv 9) (pa_cons (pv 10) pa_nil)))))))
(pss_cons (ps_set (i := 4) sc_l_list_right.nd rfl (.inl rfl) (pe_call G_l_first (hr.mono (by decide)) (by rfl) T.g_l_first T.F_l_first.kp T.b_l_first .nil pass0 (pa_cons (pe_slice sl_list (pv 3) po_none (po_some (pe_callB call_lenN (by rfl) T.m_len (by decide +kernel) (pa_cons (pv 1) pa_nil)))) pa_nil)))
(pss_cons (ps_if (pt_cmpR op_ne (pe_callB (call_reprN (hr.mono (by decide))) (by rfl) T.m_repr (by decide +kernel) (pa_cons (pe_lst (pa_cons (L2.pe_call G_first_falling (hr.room.mono (by decide)) (by rfl) T.g_first_falling T.F_first_falling.kp T.b_first_falling .nil passL (pa_cons (pv 1) pa_nil)) (pa_cons (pe_callW G_first_falling (hr.room.mono (by decide)) (by rfl) T.g_first_falling T.F_first_falling.kp T.kb_first_falling_windows passL (pk_cons (pv 1) pk_nil)) pa_nil))) pa_nil)) (pe_callB (call_reprN (hr.mono (by decide))) (by rfl) T.m_repr (by decide +kernel) (pa_cons (pe_lst (pa_cons (pv 4) (pa_cons (pv 4) pa_nil))) pa_nil)) (nomark _))
(pss_one (ps_ret pe_bl))
pss_nil)
(pss_cons (ps_if (pt_cmpR (op_neD hr.room.units) (pe_lc (own := [("_law_one", 9), ("_law_other", 10)]) (g := (gTup K 2 (gCons (gName 9) (gCons (gName 10) gNil)))) rfl sc_l_list_right.nd (pi_zip (by rfl) T.m_zip (pa_cons (pv 1) (pa_cons (pe_slice sl_list (pv 1) (po_some pe_int) po_none) pa_nil))) (blkOk_by (own := [("_law_one", 9), ("_law_other", 10)]) (N := ["_law_rng_here", "_law_some", "_law_kept", "_law_flags", "_law_due", "_law_numbers", "_law_number", "_law_found", "_law_told", "_law_one", "_law_other", "_law_flag"]) (sc := defScope s_l_list_right) (by decide +kernel)) (fun _ _ _ _ _ => (pg_tup rfl (pgs_cons (pg_name (i := 9) sc_l_list_right.nd rfl (.inl rfl)) (pgs_cons (pg_name (i := 10) sc_l_list_right.nd rfl (.inl rfl)) pgs_nil)))) (fun _ _ _ _ _ => pts_nil) (fun _ _ _ _ _ => (L2.pe_call G_rises (hr.room.mono (by decide)) (by rfl) T.g_rises T.F_rises.kp T.b_rises .nil passL (pa_cons (pv 9) (pa_cons (pv 10) pa_nil))))) (pe_lc (own := [("_law_flag", 11)]) rfl sc_l_list_right.nd (pi_list (pe_slice sl_list (pv 3) (po_some pe_int) (po_some (pe_callB call_lenN (by rfl) T.m_len (by decide +kernel) (pa_cons (pv 1) pa_nil))))) (blkOk_by (own := [("_law_flag", 11)]) (N := ["_law_rng_here", "_law_some", "_law_kept", "_law_flags", "_law_due", "_law_numbers", "_law_number", "_law_found", "_law_told", "_law_one", "_law_other", "_law_flag"]) (sc := defScope s_l_list_right) (by decide +kernel)) (fun _ _ _ _ _ => (pg_name (i := 11) sc_l_list_right.nd rfl (.inl rfl))) (fun _ _ _ _ _ => pts_nil) (fun _ _ _ _ _ => (pe_not (pv 11)))) (nomark _))
(pss_one (ps_ret pe_bl))
pss_nil)
(pss_cons (ps_set (i := 5) sc_l_list_right.nd rfl (.inl rfl) (pe_op op_cat (pe_lc (own := [("_law_one", 9)]) rfl sc_l_list_right.nd (pi_list (pv 1)) (blkOk_by (own := [("_law_one", 9)]) (N := ["_law_rng_here", "_law_some", "_law_kept", "_law_flags", "_law_due", "_law_numbers", "_law_number", "_law_found", "_law_told", "_law_one", "_law_other", "_law_flag"]) (sc := defScope s_l_list_right) (by decide +kernel)) (fun _ _ _ _ _ => (pg_name (i := 9) sc_l_list_right.nd rfl (.inl rfl))) (fun _ _ _ _ _ => pts_nil) (fun _ _ _ _ _ => (pe_ix (ix_tupK (K := K) (by rfl)) (pv 9) pe_int (fun _ _ => rfl)))) (pe_lst (pa_cons (pe_call G_l_draw (hr.mono (by decide)) (by rfl) T.g_l_draw T.F_l_draw.kp T.b_l_draw .nil pass0 (pa_cons (pv 0) (pa_cons pe_int pa_nil))) (pa_cons pe_int (pa_cons (pe_op op_sub (pe_op op_pow pe_int pe_int) pe_int) pa_nil))))))
(pss_cons (ps_for PassesOwn.never rfl (pi_list (pe_op op_cat (pv 5) (pe_lc (own := [("_law_one", 9)]) rfl sc_l_list_right.nd (pi_list (pv 1)) (blkOk_by (own := [("_law_one", 9)]) (N := ["_law_rng_here", "_law_some", "_law_kept", "_law_flags", "_law_due", "_law_numbers", "_law_number", "_law_found", "_law_told", "_law_one", "_law_other", "_law_flag"]) (sc := defScope s_l_list_right) (by decide +kernel)) (fun _ _ _ _ _ => (pg_name (i := 9) sc_l_list_right.nd rfl (.inl rfl))) (fun _ _ _ _ _ => (pts_one (pt_cmpR op_notNN (pe_ix (ix_tupK (K := K) (by rfl)) (pv 9) pe_int (fun _ _ => rfl)) pe_non (nomark _)))) (fun _ _ _ _ _ => (pe_op op_add (pe_call G_l_top (hr.mono (by decide)) (by rfl) T.g_l_top T.F_l_top.kp T.b_l_top .nil pass0 (pa_cons (pv 9) pa_nil)) (pe_call G_l_draw (hr.mono (by decide)) (by rfl) T.g_l_draw T.F_l_draw.kp T.b_l_draw .nil pass0 (pa_cons (pv 0) (pa_cons pe_int pa_nil)))))))) (pg_name (i := 6) sc_l_list_right.nd rfl (.inr rfl))
(pss_cons (ps_if (pt_cmpR (op_neD hr.room.units) (pe_lc (own := [("_law_one", 9)]) rfl sc_l_list_right.nd (pi_list (pv 1)) (blkOk_by (own := [("_law_one", 9)]) (N := ["_law_rng_here", "_law_some", "_law_kept", "_law_flags", "_law_due", "_law_numbers", "_law_number", "_law_found", "_law_told", "_law_one", "_law_other", "_law_flag"]) (sc := defScope s_l_list_right) (by decide +kernel)) (fun _ _ _ _ _ => (pg_name (i := 9) sc_l_list_right.nd rfl (.inl rfl))) (fun _ _ _ _ _ => pts_nil) (fun _ _ _ _ _ => (L2.pe_call G_contains (hr.room.mono (by decide)) (by rfl) T.g_contains T.F_contains.kp T.b_contains .nil passL (pa_cons (pv 9) (pa_cons (pv 6) pa_nil))))) (pe_lc (own := [("_law_one", 9)]) rfl sc_l_list_right.nd (pi_list (pv 1)) (blkOk_by (own := [("_law_one", 9)]) (N := ["_law_rng_here", "_law_some", "_law_kept", "_law_flags", "_law_due", "_law_numbers", "_law_number", "_law_found", "_law_told", "_law_one", "_law_other", "_law_flag"]) (sc := defScope s_l_list_right) (by decide +kernel)) (fun _ _ _ _ _ => (pg_name (i := 9) sc_l_list_right.nd rfl (.inl rfl))) (fun _ _ _ _ _ => pts_nil) (fun _ _ _ _ _ => (pe_chain op_le op_le (pe_ix (ix_tupK (K := K) (by rfl)) (pv 9) pe_int (fun _ _ => rfl)) (pv 6) (pe_call G_l_top (hr.mono (by decide)) (by rfl) T.g_l_top T.F_l_top.kp T.b_l_top .nil pass0 (pa_cons (pv 9) pa_nil))))) (nomark _))
(pss_one (ps_ret pe_bl))
pss_nil)
(pss_one (ps_if (pt_cmpR op_isNN (pv 4) pe_non (nomark _))
(pss_cons (ps_set (i := 7) sc_l_list_right.nd rfl (.inl rfl) (pe_call G_l_first (hr.mono (by decide)) (by rfl) T.g_l_first T.F_l_first.kp T.b_l_first .nil pass0 (pa_cons (pe_lc (own := [("_law_one", 9)]) rfl sc_l_list_right.nd (pi_list (pv 1)) (blkOk_by (own := [("_law_one", 9)]) (N := ["_law_rng_here", "_law_some", "_law_kept", "_law_flags", "_law_due", "_law_numbers", "_law_number", "_law_found", "_law_told", "_law_one", "_law_other", "_law_flag"]) (sc := defScope s_l_list_right) (by decide +kernel)) (fun _ _ _ _ _ => (pg_name (i := 9) sc_l_list_right.nd rfl (.inl rfl))) (fun _ _ _ _ _ => pts_nil) (fun _ _ _ _ _ => (pe_cmpR op_ge (pe_call G_l_top (hr.mono (by decide)) (by rfl) T.g_l_top T.F_l_top.kp T.b_l_top .nil pass0 (pa_cons (pv 9) pa_nil)) (pv 6) (nomark _)))) pa_nil)))
(pss_cons (ps_set (i := 8) sc_l_list_right.nd rfl (.inl rfl) (pe_lst (pa_cons (L2.pe_call G_least_reaching (hr.room.mono (by decide)) (by rfl) T.g_least_reaching T.F_least_reaching.kp T.b_least_reaching .nil passL (pa_cons (pv 1) (pa_cons (pv 6) pa_nil))) (pa_cons (pe_callW G_least_reaching (hr.room.mono (by decide)) (by rfl) T.g_least_reaching T.F_least_reaching.kp T.kb_least_reaching_version_windows passL (pk_cons (pv 6) (pk_cons (pv 1) pk_nil))) pa_nil))))
(pss_one (ps_if (pt_cmpR op_ne (pe_callB (call_reprN (hr.mono (by decide))) (by rfl) T.m_repr (by decide +kernel) (pa_cons (pv 8) pa_nil)) (pe_callB (call_reprN (hr.mono (by decide))) (by rfl) T.m_repr (by decide +kernel) (pa_cons (pe_lst (pa_cons (pv 7) (pa_cons (pv 7) pa_nil))) pa_nil)) (nomark _))
(pss_one (ps_ret pe_bl))
pss_nil))))
pss_nil))))
(pss_one (ps_ret (pe_cmpR (op_eqD hr.room.units) (pv 1) (pv 2) (nomark _))))))))))), ?_⟩
    obtain ⟨nar, xs, eL, dL⟩ := id hw
    have xl := hw.len eL
    have sqa : SqL K H a xs := SqL.of eL
    repeat (walk_at "st")
    refine i_new fun p1 G1 n1 s1 e1 => ?_
    repeat (walk_at "st")
    refine i_new fun p2 G2 n2 s2 e2 => ?_
    repeat (walk_at "st")
    refine i_new fun p3 G3 n3 s3 e3 => ?_
    rw [cutV_from (by decide)] at e3
    have eL3 := s3 _ _ (s2 _ _ (s1 _ _ eL))
    repeat (walk_at "st")
    refine l_mq (wq_zip (K := K) (xs := xs) (ys := xs.drop (Int.toNat 1)) (n := ws.length - 1) (by rw [List.length_drop]; omega)) (fun i => .bl (flagI ws i)) (by rw [sizeLine_eq]; omega) (fun H' s => ⟨SqL.of (s _ _ eL3), SqL.of (s _ _ e3)⟩) (fun i x H' S hi hr s4 hS => ?_) (fun D H4 n4 s4 e4 => ?_)
    · obtain ⟨p, x1, x2, rfl, eT, h1, h2⟩ := hr
      replace h2 : (xs.drop (Int.toNat 1))[i]? = some x2 := h2
      rw [List.getElem?_drop] at h2
      obtain ⟨w1, w2, hw1, hw2, k1, k2, ei⟩ := pair_of dL h1 h2
      have k1' : Da K H' x1 (winD w1) := ((k1.same wo_same).same wo_same).same (s1.trans (s2.trans (s3.trans s4)))
      have k2' : Da K H' x2 (winD w2) := ((k2.same wo_same).same wo_same).same (s1.trans (s2.trans (s3.trans s4)))
      repeat (walk_at "st")
      refine ⟨_, _, _, _, rfl, k1', k2', fun G5 s5 => ?_⟩
      rw [falls_rises (hws _ (List.mem_of_getElem? hw1)) (hws _ (List.mem_of_getElem? hw2))]
      rw [ei] at hS
      exact hS _ s5
    · have e4' : H4 D = some (.lst (((List.range (ws.length - 1)).map (flagI ws)).map V.bl)) := by rw [e4, List.map_map]; rfl
      repeat (walk_at "st")
      refine i_rCat (s4 _ _ (s3 _ _ e2)) e4' (by rw [sizeLine_eq]; simp only [List.length_map, List.length_range, List.length_cons, List.length_nil]; omega) ?_
      refine i_new fun p5 G5 n5 s5 e5 => ?_
      have e5' : G5 p5 = some (.lst ((flagsB ws).map V.bl)) := e5
      have eL5 := s5 _ _ (s4 _ _ eL3)
      repeat (walk_at "st")
      refine i_new fun p6 G6 n6 s6 e6 => ?_
      have e6' : G6 p6 = some (.lst (((flagsB ws).take ws.length).map V.bl)) := by
        rw [e6, cutV_to (by omega), List.map_take, xl, Int.toNat_natCast]
      have lt6 : ((flagsB ws).take ws.length).length ≤ 100 := by rw [List.length_take]; omega
      repeat (walk_at "st")
      refine ⟨_, _, rfl, SqL.of e6', by omega, fun G7 s7 => ?_⟩
      have lf : ∀ i, fallI ws = some i → i < 100000 := fun i hi => by
        rw [← first_fall] at hi
        have := firstI_lt hi
        omega
      rw [first_fall]
      have hw7 : WLs K G7 r a ws := hw.off (.of_same (s1.trans (s2.trans (s3.trans (s4.trans (s5.trans (s6.trans s7)))))))
      have okws : ∀ w ∈ ws, okW w := fun w hw => (hws w hw).1
      repeat (walk_at "st")
      refine ⟨_, _, rfl, hw7.da, fun ws' he _ G8 s8 => ?_, fun o ho => by rw [badV_wins okws] at ho; cases ho⟩
      have ew : ws = ws' := wins_inj he
      subst ew
      repeat (walk_at "st")
      refine ⟨_, _, rfl, (hw7.off (.of_same s8)).da, fun ws2 he _ G9 s9 => ?_, fun o ho => by rw [badV_wins okws] at ho; cases ho⟩
      have ew : ws = ws2 := wins_inj he
      subst ew
      repeat (walk_at "st")
      refine i_new fun p10 G10 n10 s10 e10 => ?_
      have sh10 := sh_pos2 lf
      have nd10 := nd_pos2 (fallI ws)
      have da10 : Da K G10 (.ref p10) (.list [posD (fallI ws), posD (fallI ws)]) := Da.lst (SqL.of e10) (.cons (da_pos _) (.cons (da_pos _) .nil))
      repeat (walk_at "st")
      refine i_new fun p11 G11 n11 s11 e11 => ?_
      have da11 : Da K G11 (.ref p11) (.list [posD (fallI ws), posD (fallI ws)]) := Da.lst (SqL.of e11) (.cons (da_pos _) (.cons (da_pos _) .nil))
      have hw11 : WLs K G11 r a ws := hw7.off (.of_same (s8.trans (s9.trans (s10.trans s11))))
      have off11 : Off r H G11 := .of_same (s1.trans (s2.trans (s3.trans (s4.trans (s5.trans (s6.trans (s7.trans (s8.trans (s9.trans (s10.trans s11))))))))))
      have r11 : Rok G11 r := hR.same (s1.trans (s2.trans (s3.trans (s4.trans (s5.trans (s6.trans (s7.trans (s8.trans (s9.trans (s10.trans s11))))))))))
      have e5b : G11 p5 = some (.lst ((flagsB ws).map V.bl)) := s11 _ _ (s10 _ _ (s9 _ _ (s8 _ _ (s7 _ _ (s6 _ _ e5')))))
      have e1b : G11 p1 = some (.lst xs) := s11 _ _ (s10 _ _ (s9 _ _ (s8 _ _ (s7 _ _ (s6 _ _ (s5 _ _ (s4 _ _ (s3 _ _ (s2 _ _ e1)))))))))
      have dL1 : DaAll K (wo a (wo r G11)) xs (ws.map winD) := dL.same (wo_off off11)
      clear s1 s2 s3 s4 s5 s6 s7
      repeat (walk_at "st")
      obtain ⟨_, xs11, eL11, dL11⟩ := id hw11
      have eLb : G11 a = some (.lst xs) := off11.get nar eL
      clear eL11 dL11
      refine i_new fun p12 G12 n12 s12 e12 => ?_
      rw [cutV_from (by decide)] at e12
      repeat (walk_at "st")
      refine l_mq (wq_zip (K := K) (xs := xs) (ys := xs.drop (Int.toNat 1)) (n := ws.length - 1) (by rw [List.length_drop]; omega)) (fun i => .bl (!flagI ws i)) (by rw [sizeLine_eq]; omega) (fun H' s => ⟨SqL.of (s _ _ (s12 _ _ eLb)), SqL.of (s _ _ e12)⟩) (fun i x H' S hi hr s4 hS => ?_) (fun D H4 n4 s4 e4 => ?_)
      · obtain ⟨p, x1, x2, rfl, eT, h1, h2⟩ := hr
        replace h2 : (xs.drop (Int.toNat 1))[i]? = some x2 := h2
        rw [List.getElem?_drop] at h2
        obtain ⟨w1, w2, hw1, hw2, k1, k2, ei⟩ := pair_of dL1 h1 h2
        have ok1 := okws _ (List.mem_of_getElem? hw1)
        have ok2 := okws _ (List.mem_of_getElem? hw2)
        have k1' : Da K H' x1 (winD w1) := ((k1.same wo_same).same wo_same).same (s12.trans s4)
        have k2' : Da K H' x2 (winD w2) := ((k2.same wo_same).same wo_same).same (s12.trans s4)
        repeat (walk_at "st")
        refine ⟨_, _, _, _, rfl, k1', k2', fun w u hw hu G5 s5 => ?_, (fun z => by rw [winB_ok ok1] at z; cases z), fun _ z => by rw [winB_ok ok2] at z; cases z⟩
        rw [winP_D ok1] at hw
        rw [winP_D ok2] at hu
        cases hw
        cases hu
        rw [ei, Bool.not_not] at hS
        exact hS _ s5
      · have e4' : H4 D = some (.lst (((List.range (ws.length - 1)).map fun i => !flagI ws i).map V.bl)) := by rw [e4, List.map_map]; rfl
        have e5c := s4 _ _ (s12 _ _ e5b)
        have eLc := s4 _ _ (s12 _ _ eLb)
        repeat (walk_at "st")
        refine i_new fun p13 G13 n13 s13 e13 => ?_
        have e13' : G13 p13 = some (.lst (((List.range (ws.length - 1)).map (flagI ws)).map V.bl)) := by rw [e13, cutV_flags xl]
        repeat (walk_at "st")
        refine ⟨⟨_, SqL.of e13'⟩, ?_⟩
        refine l_mq wk_list.q (fun i => .bl (!(flagI ws i))) (by simp only [List.length_map, List.length_range]; rw [sizeLine_eq]; omega) (fun H' s => SqL.of (s _ _ e13')) (fun i x H' S hi hr s5 hS => ?_) (fun D5 H5 n5 s5 e5 => ?_)
        · rw [List.getElem?_map, List.getElem?_map] at hr
          simp only [List.length_map, List.length_range] at hi
          rw [List.getElem?_range hi] at hr
          cases hr
          repeat (walk_at "st")
          exact hS _ (Same.refl _)
        · simp only [List.length_map, List.length_range] at e5
          have e5' : H5 D5 = some (.lst (((List.range (ws.length - 1)).map fun i => !flagI ws i).map V.bl)) := by rw [e5, List.map_map]; rfl
          repeat (walk_at "st")
          refine i_neDsame (da_bools (s5 _ _ (s13 _ _ e4'))) (da_bools e5') (nd_bools _) (shaped_bools _) ?_
          have tail13 : Same G11 H5 := s12.trans (s4.trans (s13.trans s5))
          clear e4 e4' e5 e5' e12 e13 e13' s4 s5 s12 s13
          repeat (walk_at "st")
          have eL5 := tail13 _ _ eLb
          have r5 := r11.same tail13
          have off5 : Off r H H5 := off11.trans (.of_same tail13)
          have dL5 := dL1.same (wo_off (.of_same tail13))
          have e15 := tail13 _ _ e1b
          clear e5b tail13 da10 da11 e10 e11
          refine ⟨⟨_, SqL.of eL5⟩, ?_⟩
          refine l_mq wk_list.q (fun i => .int (ws.getD i (0, none)).1) (by rw [sizeLine_eq]; omega) (fun H' s => SqL.of (s _ _ eL5)) (fun i x H' S hi hr s14 hS => ?_) (fun D6 H6 n6 s6 e6 => ?_)
          · obtain ⟨d1, hd1, k1⟩ := da_get dL5 hr
            obtain ⟨w1, hw1, rfl⟩ := wins_get hd1
            obtain ⟨b, rfl, hT⟩ := da_win (((k1.same wo_same).same wo_same).same s14)
            have hg : ws.getD i (0, none) = w1 := by rw [List.getD_eq_getElem?_getD, hw1]; rfl
            rw [hg] at hS
            repeat (walk_at "st")
            exact hS _ (Same.refl _)
          · have e6' : H6 D6 = some (.lst (ws.map fun w => V.int w.1)) := by
              rw [e6, xl]
              exact congrArg (fun l => some (HO.lst l)) (range_map ws (0, none) fun w => V.int w.1)
            have r6 := r5.same s6
            repeat (walk_at "st")
            refine ⟨_, _, rfl, (by walk_at "side"), (by first | decide | decide +kernel | assumption), (by walk_at "rok"), fun d7 G7 dl7 dh7 r7 o7 => ?_⟩
            repeat (walk_at "st")
            refine i_new fun p8 G8 n8 s8 e8 => ?_
            have e6c := s8 _ _ (o7.get (ne_of_rok r5 n6) e6')
            refine i_rCat e6c e8 (by rw [sizeLine_eq]; simp only [List.length_map, List.length_cons, List.length_nil]; omega) ?_
            refine i_new fun p9 G9 n9 s9 e9 => ?_
            have eL9 := s9 _ _ (s8 _ _ (o7.get nar (s6 _ _ eL5)))
            have off9 : Off r H G9 := off5.trans ((Off.of_same s6).trans (o7.trans (.of_same (s8.trans s9))))
            have r9 := (r7.same s8).same s9
            repeat (walk_at "st")
            have dL9 := dL.same (wo_off off9)
            refine ⟨⟨_, SqL.of eL9⟩, ?_⟩
            refine l_rq wk_list.q r (fun v => ∃ i : Int, v = .int i ∧ 0 ≤ i ∧ i < 10 ^ Int.toNat 64) (by rw [sizeLine_eq]; omega) r9 (fun H' o => SqL.of (o.get nar eL9)) (fun i x H' S N hi hr oA rA hS hN => ?_) (fun D10 H10 ys n10 nr10 o10 r10 e10 l10 k10 => ?_)
            · obtain ⟨d1, hd1, k1⟩ := da_get (dL9.same (wo_off oA)) hr
              obtain ⟨w1, hw1, rfl⟩ := wins_get hd1
              have k1' : Da K H' x (winD w1) := (k1.same wo_same).same wo_same
              have w60 := hws _ (List.mem_of_getElem? hw1)
              obtain ⟨b, rfl, hT⟩ := da_win k1'
              obtain ⟨l, o⟩ := w1
              cases o with
              | none =>
                have hT : SqT K H' b [.int l, .non] := hT
                repeat (walk_at "st")
                refine i_ff (by rfl) ?_
                exact hN _ (Off.refl _ _) rA
              | some h =>
                have hT : SqT K H' b [.int l, .int h] := hT
                repeat (walk_at "st")
                refine i_tt (by rfl) ?_
                repeat (walk_at "st")
                refine ⟨_, _, rfl, k1', fun G20 s20 => ?_⟩
                repeat (walk_at "st")
                have r20 := rA.same s20
                refine ⟨_, _, rfl, (by walk_at "side"), (by first | decide | decide +kernel | assumption), (by walk_at "rok"), fun d21 G21 dl21 dh21 r21 o21 => ?_⟩
                repeat (walk_at "st")
                have z60 : (10 : Int) ^ 60 + 10 < 10 ^ Int.toNat 64 := by decide +kernel
                have h60 := w60.2.2 h rfl
                have h0 := w60.1.2 h rfl
                have l0 := w60.1.1
                have et : topW (l, some h) = h := rfl
                dsimp only at h0 l0
                generalize (10 : Int) ^ 60 = m1 at z60 h60
                exact hS _ _ ⟨_, rfl, by rw [et]; omega, by rw [et]; omega⟩ ((Off.of_same s20).trans o21) r21
            · repeat (walk_at "st")
              have ne9 : p9 ≠ r := ne_of_rok ((r7.same s8)) n9
              refine i_rCat (o10.get ne9 e9) e10 (by rw [sizeLine_eq]; simp only [List.length_map, List.length_append, List.length_cons, List.length_nil]; omega) ?_
              refine i_new fun p11 G11 n11 s11 e11 => ?_
              repeat (walk_at "st")
              refine ⟨⟨_, SqL.of e11⟩, ?_⟩
              have eL11 := s11 _ _ (o10.get nar eL9)
              have off11' : Off r H G11 := off9.trans (o10.trans (.of_same s11))
              have ne1 : p1 ≠ r := ne_of_rok hR n1
              have e15x := s11 _ _ (o10.get ne1 (s9 _ _ (s8 _ _ (o7.get ne1 (s6 _ _ e15)))))
              generalize hdv : posV (fallI ws) = dv
              refine f_wk wk_list (fun i σ H' => Same G11 H' ∧ ∃ y6 y7 y8 y9 y10 y11, σ = [some (.ref r), some (.ref a), some (.ref p1), some (.ref p5), some dv, some (.ref p9), y6, y7, y8, y9, y10, y11]) ⟨Same.refl _, _, _, _, _, _, _, rfl⟩ (fun i σ H' h => SqL.of (h.1 _ _ e11)) (fun i x σ H' hx h => ?_) (fun σ H' h => ?_)
              · obtain ⟨sH, y6, y7, y8, y9, y10, y11, rfl⟩ := h
                obtain ⟨n, rfl, n0, nM⟩ : ∃ n : Int, x = .int n ∧ 0 ≤ n ∧ n < 10 ^ Int.toNat 64 := by
                  have z60 : (10 : Int) ^ 60 < 10 ^ Int.toNat 64 := by decide +kernel
                  have z59 : (10 : Int) ^ Int.toNat 59 - 1 < 10 ^ Int.toNat 64 ∧ (0 : Int) ≤ 10 ^ Int.toNat 59 - 1 := by decide +kernel
                  have z12 : (12 : Int) < 10 ^ Int.toNat 64 := by decide +kernel
                  have hm := List.mem_of_getElem? hx
                  simp only [List.mem_append, List.mem_map, List.mem_cons, List.not_mem_nil, or_false] at hm
                  rcases hm with (⟨w1, hw1, rfl⟩ | rfl | rfl | rfl) | hm
                  · have w60 := hws _ hw1
                    exact ⟨_, rfl, w60.1.1, Int.lt_trans w60.2.1 z60⟩
                  · exact ⟨_, rfl, dl7, by omega⟩
                  · exact ⟨_, rfl, Int.le_refl _, by omega⟩
                  · exact ⟨_, rfl, z59.2, z59.1⟩
                  · obtain ⟨i, rfl, h1, h2⟩ := k10 _ hm
                    exact ⟨_, rfl, h1, h2⟩
                have eLx := sH _ _ eL11
                have hwx : DaAll K (wo a (wo r H')) xs (ws.map winD) := dL.same (wo_off (off11'.trans (.of_same sH)))
                have rx : Rok H' r := (r10.same s11).same sH
                clear s8 s9 s10 s11 o7 o10
                repeat (walk_at "st")
                refine ⟨⟨_, SqL.of eLx⟩, ?_⟩
                refine l_mq wk_list.q (fun i => .bl (contW (ws.getD i (0, none)) n)) (by rw [sizeLine_eq]; omega) (fun H' s => SqL.of (s _ _ eLx)) (fun i x H' S hi hr s1 hS => ?_) (fun D1 H1 n1 s1 e1 => ?_)
                · obtain ⟨d1, hd1, k1⟩ := da_get hwx hr
                  obtain ⟨w1, hw1, rfl⟩ := wins_get hd1
                  have k1' := ((k1.same wo_same).same wo_same).same s1
                  have hg : ws.getD i (0, none) = w1 := by rw [List.getD_eq_getElem?_getD, hw1]; rfl
                  rw [hg] at hS
                  have ok1 := okws _ (List.mem_of_getElem? hw1)
                  repeat (walk_at "st")
                  refine ⟨_, _, _, _, rfl, k1', DaF.int n, fun w m hw hu _ G5 s5 => ?_, (fun z => by rw [winB_ok ok1] at z; cases z), fun _ z => ?_⟩
                  · rw [winP_D ok1] at hw
                    cases hw
                    cases hu
                    exact hS _ s5
                  · exact absurd n0 (of_decide_eq_false z)
                · have e1' : H1 D1 = some (.lst ((ws.map fun w => contW w n).map V.bl)) := by
                    rw [e1, xl, List.map_map]
                    exact congrArg (fun l => some (HO.lst l)) (range_map ws (0, none) fun w => V.bl (contW w n))
                  clear e1
                  have eL1 := s1 _ _ eLx
                  repeat (walk_at "st")
                  refine ⟨⟨_, SqL.of eL1⟩, ?_⟩
                  refine l_mq wk_list.q (fun i => .bl (contW (ws.getD i (0, none)) n)) (by rw [sizeLine_eq]; omega) (fun H' s => SqL.of (s _ _ eL1)) (fun i x H' S hi hr s2 hS => ?_) (fun D2 H2 n2 s2 e2 => ?_)
                  · obtain ⟨d1, hd1, k1⟩ := da_get hwx hr
                    obtain ⟨w1, hw1, rfl⟩ := wins_get hd1
                    have k1' := ((k1.same wo_same).same wo_same).same (s1.trans s2)
                    have hg : ws.getD i (0, none) = w1 := by rw [List.getD_eq_getElem?_getD, hw1]; rfl
                    rw [hg] at hS
                    unfold contW at hS
                    rw [← top_reach nM] at hS
                    have hT : ∃ b, x = .ref b ∧ SqT K H' b [.int w1.1, hiV w1.2] := da_win k1'
                    obtain ⟨b, rfl, hT⟩ := hT
                    repeat (walk_at "st")
                    refine i_ite (fun e => ?_) (fun e => ?_)
                    · rw [e, Bool.true_and] at hS
                      repeat (walk_at "st")
                      refine ⟨_, _, rfl, k1', fun G5 s5 => ?_⟩
                      repeat (walk_at "st")
                      exact hS _ s5
                    · rw [e, Bool.false_and] at hS
                      repeat (walk_at "st")
                      exact hS _ (Same.refl _)
                  · have e2' : H2 D2 = some (.lst ((ws.map fun w => contW w n).map V.bl)) := by
                      rw [e2, xl, List.map_map]
                      exact congrArg (fun l => some (HO.lst l)) (range_map ws (0, none) fun w => V.bl (contW w n))
                    clear e2
                    repeat (walk_at "st")
                    refine i_neDsame (da_bools (s2 _ _ e1')) (da_bools e2') (nd_bools _) (shaped_bools _) ?_
                    have s12 : Same H' H2 := s1.trans s2
                    have sA := sH.trans s12
                    clear e1' e2' s1 s2
                    repeat (walk_at "st")
                    rcases hf : fallI ws with _ | fi
                    · obtain rfl : dv = .non := by rw [← hdv, hf]; rfl
                      have eL2 := s12 _ _ eLx
                      repeat (walk_at "st")
                      refine i_tt (by rfl) ?_
                      repeat (walk_at "st")
                      refine ⟨⟨_, SqL.of eL2⟩, ?_⟩
                      refine l_mq wk_list.q (fun i => .bl (reachW (ws.getD i (0, none)) n)) (by rw [sizeLine_eq]; omega) (fun H' s => SqL.of (s _ _ eL2)) (fun i x H' S hi hr s3 hS => ?_) (fun D3 H3 n3 s3 e3 => ?_)
                      · obtain ⟨d1, hd1, k1⟩ := da_get hwx hr
                        obtain ⟨w1, hw1, rfl⟩ := wins_get hd1
                        have k1' := ((k1.same wo_same).same wo_same).same (s12.trans s3)
                        have hg : ws.getD i (0, none) = w1 := by rw [List.getD_eq_getElem?_getD, hw1]; rfl
                        rw [hg, ← top_reach nM] at hS
                        repeat (walk_at "st")
                        refine ⟨_, _, rfl, k1', fun G5 s5 => ?_⟩
                        repeat (walk_at "st")
                        exact hS _ s5
                      · have e3' : H3 D3 = some (.lst ((ws.map fun w => reachW w n).map V.bl)) := by
                          rw [e3, xl, List.map_map]
                          exact congrArg (fun l => some (HO.lst l)) (range_map ws (0, none) fun w => V.bl (reachW w n))
                        clear e3
                        repeat (walk_at "st")
                        refine ⟨_, _, rfl, SqL.of e3', by rw [List.length_map]; omega, fun G4 s4 => ?_⟩
                        rw [first_least]
                        have hw4 : WLs K G4 r a ws := WLs.off ⟨nar, xs, eL2, hwx.same (wo_off (.of_same s12))⟩ (.of_same (s3.trans s4))
                        have ll : ∀ i, leastI n ws = some i → i < 100000 := fun i hi => by
                          rw [← first_least] at hi
                          have := firstI_lt hi
                          rw [List.length_map] at this
                          omega
                        repeat (walk_at "st")
                        refine ⟨_, _, _, _, rfl, hw4.da, DaF.int n, fun ws' m he _ _ hm _ G5 s5 => ?_, (fun o ho => by rw [badV_wins okws] at ho; cases ho), (fun ws' i he _ hx => ?_), (fun ws' he _ _ z => absurd n0 (of_decide_eq_false z))⟩
                        · have ew : ws = ws' := wins_inj he
                          subst ew
                          cases hm
                          repeat (walk_at "st")
                          refine ⟨_, _, _, _, rfl, (hw4.off (.of_same s5)).da, DaF.int n, fun ws' m he _ _ hm _ G6 s6 => ?_, (fun o ho => by rw [badV_wins okws] at ho; cases ho), (fun ws' i he _ hx => ?_), (fun ws' he _ _ z => absurd n0 (of_decide_eq_false z))⟩
                          · have ew : ws = ws' := wins_inj he
                            subst ew
                            cases hm
                            repeat (walk_at "st")
                            refine i_new fun p7 G7 n7 s7 e7 => ?_
                            have sh7 := sh_pos2 ll
                            have nd7 := nd_pos2 (leastI n ws)
                            have da7 : Da K G7 (.ref p7) (.list [posD (leastI n ws), posD (leastI n ws)]) := Da.lst (SqL.of e7) (.cons (da_pos _) (.cons (da_pos _) .nil))
                            repeat (walk_at "st")
                            refine i_new fun p8 G8 n8 s8 e8 => ?_
                            have da8 : Da K G8 (.ref p8) (.list [posD (leastI n ws), posD (leastI n ws)]) := Da.lst (SqL.of e8) (.cons (da_pos _) (.cons (da_pos _) .nil))
                            repeat (walk_at "st")
                            exact ⟨sA.trans (s3.trans (s4.trans (s5.trans (s6.trans (s7.trans s8))))), _, _, _, _, _, _, rfl⟩
                          · have ew : ws = ws' := wins_inj he
                            subst ew
                            rw [hf] at hx
                            cases hx
                        · have ew : ws = ws' := wins_inj he
                          subst ew
                          rw [hf] at hx
                          cases hx
                    · obtain rfl : dv = .int (fi : Nat) := by rw [← hdv, hf]; rfl
                      repeat (walk_at "st")
                      refine i_ff (by rfl) ?_
                      exact ⟨sA, _, _, _, _, _, _, rfl⟩
              · obtain ⟨sH, y6, y7, y8, y9, y10, y11, rfl⟩ := h
                repeat (walk_at "st")
                have hwE : WLs K H' r a ws := hw.off (off11'.trans (.of_same sH))
                have e15' := sH _ _ e15x
                have dK : Da K H' (.ref p1) (.list (ws.map winD)) := Da.lst (SqL.of e15') (((dL.same (wo_off (off11'.trans (.of_same sH)))).same wo_same).same wo_same)
                refine i_eqD hwE.da dK (nd_wins ws) (nd_wins ws) (shaped_wins ws) (shaped_wins ws) ?_
                rw [SeqAt.eqv_refl _ (shaped_lay (shaped_wins ws))]
                exact q _ (off11'.trans (.of_same sH)) ((r10.same s11).same sH)
end
end KX

namespace KX
open PySem PySem.Spec PyProof.Rows L2

local macro_rules | `(tactic| walk_at "kp") => `(tactic| first
  | with_reducible exact Kp.refl
  | with_reducible exact Kp.thenS (by assumption) (by walk_at "kp")
  | with_reducible exact Kp.thenO (by assumption) (by walk_at "ne") (by walk_at "kp")
  | fail)
local macro_rules | `(tactic| walk_at "hq") => `(tactic| first
  | assumption
  | with_reducible exact Kp.get (by assumption) (by walk_at "kp")
  | fail)
local macro_rules | `(tactic| walk_at "hg") => `(tactic| first
  | walk_at "hq"
  | exact upd_same
  | with_reducible exact (upd_ne (by walk_at "ne")).trans (by walk_at "hg")
  | with_reducible exact Same.get (by assumption) (by walk_at "hg")
  | with_reducible exact Off.get (by assumption) (by walk_at "ne") (by walk_at "hg")
  | fail)
local macro_rules | `(tactic| walk_at "ne") => `(tactic| first
  | assumption
  | (apply Ne.symm; assumption)
  | exact Rok.ne' (by assumption) (by walk_at "rok")
  | exact (Rok.ne' (by assumption) (by walk_at "rok")).symm
  | exact ne_some (by assumption) (by walk_at "hg")
  | exact (ne_some (by assumption) (by walk_at "hg")).symm
  | fail)
local macro_rules | `(tactic| walk_at "rok") => `(tactic| first
  | assumption
  | with_reducible exact Rok.kp (by assumption) (by walk_at "kp")
  | with_reducible exact Rok.same (by assumption) (by walk_at "rok")
  | fail)
local macro_rules | `(tactic| walk_at "sq") => `(tactic| first
  | assumption
  | exact Same.seq (by assumption) (by assumption)
  | with_reducible exact SqL.of (by walk_at "hg")
  | with_reducible exact SqT.of (by walk_at "hg")
  | fail)
local macro_rules | `(tactic| walk_at "dac") => `(tactic| first
  | assumption
  | exact DaF.same (by assumption) (by walk_at "dac")
  | fail)
local macro_rules | `(tactic| walk_at "da") => `(tactic| first
  | exact (DaF.non : DaS _ _ _ _)
  | exact (DaF.bl _ : DaS _ _ _ _)
  | exact (DaF.int _ : DaS _ _ _ _)
  | exact (DaF.str _ : DaS _ _ _ _)
  | exact DaF.non
  | exact DaF.bl _
  | exact DaF.int _
  | exact DaF.str _
  | walk_at "dac"
  | with_reducible exact DaF.lst (SqL.of (by walk_at "hq")) (fun _ => by assumption) (by walk_at "das")
  | with_reducible exact Da.lst (SqL.of (by walk_at "hq")) (by walk_at "das")
  | with_reducible exact DaF.tup (SqT.of (by walk_at "hq")) (by walk_at "das")
  | with_reducible exact DaF.dic (Rd.of (by walk_at "hq")) (by walk_at "dak")
  | fail)
local macro_rules | `(tactic| walk_at "das") => `(tactic| first
  | assumption
  | exact DaAllF.nil
  | exact DaAllF.cons (by walk_at "da") (by walk_at "das")
  | fail)
local macro_rules | `(tactic| walk_at "dak") => `(tactic| first
  | assumption
  | exact DaKvF.nil
  | exact DaKvF.cons (by walk_at "da") (by walk_at "dak")
  | fail)
local macro_rules | `(tactic| walk_at "shw") => `(tactic| first
  | assumption
  | exact shw_b2 _ _
  | exact ⟨by decide +kernel, by decide +kernel, by decide +kernel⟩
  | fail)
local macro_rules | `(tactic| walk_at "nod") => `(tactic| first
  | exact .inl rfl
  | exact .inr rfl
  | assumption
  | exact .inr (by assumption)
  | fail)
local macro_rules | `(tactic| walk_at "okd") => `(tactic| first
  | assumption
  | exact okd_of (by decide +kernel)
  | fail)
local macro_rules | `(tactic| walk_at "off") => `(tactic| first
  | assumption
  | exact Off.refl _ _
  | exact Same.refl _
  | with_reducible exact Same.thenS (by assumption) (by walk_at "off")
  | with_reducible exact Off.thenS (by assumption) (by walk_at "off")
  | with_reducible exact Off.thenO (by assumption) (by walk_at "off")
  | with_reducible exact Same.thenF (by assumption) (by assumption) (by walk_at "off") (by walk_at "off")
  | with_reducible exact Off.thenF (by assumption) (by assumption) (by walk_at "off") (by walk_at "off")
  | fail)
local macro_rules | `(tactic| walk_at "side") => `(tactic| first
  | assumption
  | omega
  | decide
  | (simp only [List.length_cons, List.length_nil]; decide)
  | exact ⟨by omega, by omega⟩
  | exact ⟨by omega, PyProof.noPylong_of_log2 (by first | assumption | decide)⟩
  | exact .inl ⟨by omega, by omega⟩
  | exact .inr ⟨by omega, by omega⟩
  | exact ⟨by decide, by decide, by decide⟩
  | exact ⟨by decide, by decide, by omega⟩
  | fail)
local macro_rules | `(tactic| walk_at "st") => `(tactic| first
  | with_reducible refine i_seq ?_
  | with_reducible refine i_bi ?_
  | with_reducible refine i_raise ?_
  | with_reducible refine i_callX ?_
  | with_reducible refine i_tryN ?_
  | with_reducible refine i_isNon ?_
  | with_reducible refine i_isNotNon ?_
  | ((with_reducible refine' i_split ?h ?z ?_); (case h => rfl); (case z => walk_at "side"))
  | with_reducible refine i_find ?_
  | ((with_reducible refine i_strI ?h ?_); (case h => walk_at "side"))
  | with_reducible refine i_fmt ?_
  | ((with_reducible refine i_fmS ?h ?_); (case h => walk_at "side"))
  | ((with_reducible refine i_fmI ?h ?_); (case h => walk_at "side"))
  | with_reducible refine i_jn ?_
  | with_reducible refine i_js0 ?_
  | with_reducible refine i_js1 ?_
  | ((with_reducible refine i_jsR ?h ?_); (case h => walk_at "side"))
  | with_reducible refine i_revS ?_
  | ((with_reducible refine i_exrev ?h ?_); (case h => walk_at "side"))
  | with_reducible refine i_revL ?_
  | ((with_reducible refine' i_exrevL ?h ?_); (case h => walk_at "sq"))
  | with_reducible refine i_par3 ?_
  | with_reducible refine i_ex3 ?_
  | with_reducible refine i_stB ?_
  | with_reducible refine i_mk0 ?_
  | with_reducible refine i_asg ?_
  | with_reducible refine i_c ?_
  | ((with_reducible refine' i_var ?h ?_); (case h => rfl))
  | with_reducible refine i_op ?_
  | with_reducible refine i_cons ?_
  | with_reducible refine i_nil ?_
  | ((with_reducible refine' i_gName ?h ?_); (case h => rfl))
  | with_reducible refine i_rI0 ?_
  | ((with_reducible refine i_rI ?h ?_); (case h => walk_at "side"))
  | with_reducible refine i_test ?_
  | with_reducible refine i_exbl ?_
  | with_reducible refine i_exint ?_
  | with_reducible refine i_exs ?_
  | with_reducible refine i_ret ?_
  | with_reducible refine i_next ?_
  | with_reducible refine i_ifS ?_
  | ((with_reducible refine' i_rIxL ?h ?e ?_); (case h => walk_at "sq"); (case e => first | assumption | rfl))
  | ((with_reducible refine' i_rIxT ?h ?e ?_); (case h => walk_at "sq"); (case e => first | assumption | rfl))
  | ((with_reducible refine' i_rIxS ?h ?e ?_); (case h => walk_at "side"); (case e => first | assumption | rfl))
  | with_reducible refine i_un ?_
  | with_reducible refine i_rU ?_
  | ((with_reducible refine i_rEqSame ?h ?_); (case h => rfl))
  | ((with_reducible refine i_rNeSame ?h ?_); (case h => rfl))
  | ((with_reducible refine i_rEq ?h ?_); (case h => rfl))
  | ((with_reducible refine i_rNe ?h ?_); (case h => rfl))
  | with_reducible refine i_tB ?_
  | with_reducible refine i_and ?_
  | with_reducible refine i_or ?_
  | with_reducible refine i_not ?_
  | with_reducible refine i_andV ?_
  | with_reducible refine i_orV ?_
  | with_reducible refine i_notV ?_
  | with_reducible refine i_if ?_
  | with_reducible refine i_chain ?_
  | with_reducible refine i_drop ?_
  | with_reducible refine i_retN ?_
  | with_reducible refine i_par ?_
  | with_reducible refine i_ex2 ?_
  | ((with_reducible refine' i_aug ?h ?_); (case h => rfl))
  | with_reducible refine i_gNil ?_
  | with_reducible refine i_gCons ?_
  | ((with_reducible refine' i_gTup ?h ?e ?_); (case h => walk_at "sq"); (case e => rfl))
  | with_reducible refine i_gSub ?_
  | ((with_reducible refine' i_rSetL ?h ?e ?_); (case h => walk_at "hg"); (case e => first | assumption | rfl))
  | with_reducible refine i_tup ?_
  | with_reducible refine i_lst ?_
  | with_reducible refine i_lstN ?_
  | with_reducible refine i_newDK ?_
  | with_reducible refine i_disp ?_
  | with_reducible refine i_pairs0 ?_
  | with_reducible refine i_pairs1 ?_
  | with_reducible refine i_call ?_
  | with_reducible refine i_cb ?_
  | with_reducible refine i_bm ?_
  | with_reducible refine i_m1 ?_
  | with_reducible refine i_m0 ?_
  | ((with_reducible refine' i_rAppend ?h ?e ?_); (case h => walk_at "hg"); (case e => walk_at "side"))
  | ((with_reducible refine i_rSlS ?h ?_); (case h => walk_at "side"))
  | ((with_reducible refine' i_rSlL ?h ?_); (case h => walk_at "sq"))
  | with_reducible refine i_sl ?_
  | with_reducible refine i_noPart ?_
  | with_reducible refine i_part ?_
  | with_reducible refine i_rng1 ?_
  | with_reducible refine i_iList ?_
  | with_reducible refine i_iStr ?_
  | with_reducible refine i_iEnum ?_
  | with_reducible refine i_iZip ?_
  | with_reducible refine i_ez ?_
  | ((with_reducible refine' i_exen ?h ?_); (case h => walk_at "sq"))
  | ((with_reducible refine' i_exz ?h ?k ?_); (case h => walk_at "sq"); (case k => walk_at "sq"))
  | ((with_reducible refine' i_listN ?h ?_); (case h => walk_at "sq"))
  | with_reducible refine i_intB ?_
  | ((with_reducible refine' i_tyL ?h ?_); (case h => walk_at "sq"))
  | with_reducible refine i_isBl ?_
  | ((with_reducible refine i_callW ?_))
  | ((with_reducible refine i_exrng ?h1 ?h2 ?_); (case h1 => walk_at "side"); (case h2 => walk_at "side"))
  | ((with_reducible refine' i_exl ?h ?_); (case h => walk_at "sq"))
  | with_reducible refine i_for ?_
  | with_reducible refine i_lc ?_
  | with_reducible refine i_yes ?_
  | with_reducible refine i_iteT ?_
  | with_reducible refine i_iteF ?_
  | ((with_reducible refine i_divmod ?h ?_); (case h => walk_at "side"))
  | ((with_reducible refine' i_isi ?h ?e ?_); (case h => walk_at "da"); (case e => decide))
  | ((with_reducible refine i_lenS ?h ?_); (case h => walk_at "side"))
  | ((with_reducible refine' i_lenL ?h ?_); (case h => walk_at "sq"))
  | ((with_reducible refine' i_lenT ?h ?_); (case h => walk_at "sq"))
  | ((with_reducible refine' i_repr ?h ?n ?e ?_); (case h => walk_at "da"); (case n => walk_at "nod"); (case e => walk_at "shw"))
  | ((with_reducible refine' i_rCat ?h ?e ?z ?_); (case h => walk_at "hg"); (case e => walk_at "hg"); (case z => walk_at "side"))
  | ((with_reducible refine i_rCatS ?h ?_); (case h => walk_at "side"))
  | with_reducible refine i_exstr ?_
  | ((with_reducible refine' i_join ?h ?z ?_); (case h => walk_at "sq"); (case z => walk_at "side"))
  | with_reducible refine i_abs ?_
  | with_reducible refine i_max ?_
  | with_reducible refine i_min ?_
  | ((with_reducible refine' i_rAll ?h ?_); (case h => walk_at "sq"))
  | ((with_reducible refine' i_lcEl ?h ?e ?_); (case h => walk_at "hg"); (case e => walk_at "side"))
  | with_reducible refine ⟨_, _, rfl, rfl, ?_⟩
  | with_reducible refine ⟨_, _, rfl, ?_⟩
  | with_reducible refine ⟨_, rfl, ?_⟩
  | with_reducible refine And.intro rfl ?_
  | ((with_reducible refine And.intro ?h ?_); (case h => walk_at "side"))
  | fail)

section
variable {P : Program} {w : World} {K : PySem.W.Frag} {mg : Str → Option Value} {base : Heap} {A : Ad}
theorem small.w60 {w : Int × Option Int} (h : small w) : W60 w := by
  have z : (1000 : Int) < 10 ^ 60 := by decide +kernel
  obtain ⟨h1, h2, h3⟩ := h
  generalize e : (10 : Int) ^ 60 = m at z
  unfold W60
  rw [e]
  exact ⟨h1, by omega, fun k hk => by have := h3 k hk; omega⟩
theorem small.move {w : Int × Option Int} {f : Int} (h : small w) (f0 : 0 ≤ f) (f1 : f ≤ 10 ^ 58) : W60 (moveW f w) := by
  have z : (10 : Int) ^ 58 + 1000 < 10 ^ 60 := by decide +kernel
  obtain ⟨l, o⟩ := w
  obtain ⟨⟨h1, h4⟩, h2, h3⟩ := h
  dsimp only at h1 h2 h3 h4
  generalize e : (10 : Int) ^ 60 = m at z
  generalize (10 : Int) ^ 58 = m2 at z f1
  unfold W60 moveW okW
  rw [e]
  refine ⟨⟨by dsimp only; omega, fun k hk => ?_⟩, by dsimp only; omega, fun k hk => ?_⟩
  · cases o with
    | none => cases hk
    | some z =>
      cases hk
      have := h4 z rfl
      have := h3 z rfl
      dsimp only; omega
  · cases o with
    | none => cases hk
    | some z =>
      cases hk
      have := h3 z rfl
      dsimp only; omega
theorem i_ifC {c : Prop} [Decidable c] {a b : V} {σ : L2.St} {H : Hp} {Q : VK} {good : V → Prop} (ha : good a) (hb : good b) (q : ∀ v, good v → Q v H) : if c then tC a σ H Q else tC b σ H Q := by
  by_cases h : c
  · rw [if_pos h]; exact q a ha
  · rw [if_neg h]; exact q b hb
theorem rangeV_item {lo : Int} {n i : Nat} {x : V} (h : (rangeV lo n)[i]? = some x) : ∃ k : Int, x = .int (lo + k) ∧ 0 ≤ k ∧ k < n := by
  have hi : i < n := by
    have := (List.getElem?_eq_some_iff.mp h).1
    rwa [rangeV_len] at this
  rw [rangeV_get hi] at h
  cases h
  exact ⟨i, rfl, by omega, by omega⟩
def sp_law (K : PySem.W.Frag) : Sp := fun vs H Q _ => ∃ (s : Addr) (ns : List Int), vs = [.ref s] ∧ SqL K H s (ns.map V.int) ∧ ns.length ≤ 63 ∧ ∀ H', Q (.bl true) H'
theorem ok_law (T : Txt K mg A) : Fg P w K mg base CX0 9 A.f_law A.d_law ["_law_script"] (sp_law K) := by
  have G_l_draw := ok_l_draw (P := P) (w := w) (base := base) T
  have G_l_rng := ok_l_rng (P := P) (w := w) (base := base) T
  have G_InvalidVersionx_initx := ok_InvalidVersionx_initx (P := P) (w := w) (base := base) T
  have G_InvalidWindowx_initx := ok_InvalidWindowx_initx (P := P) (w := w) (base := base) T
  have G_InvalidWindowsx_initx := ok_InvalidWindowsx_initx (P := P) (w := w) (base := base) T
  have G_is_integer := ok_is_integer (P := P) (w := w) (base := base) T
  have G_is_version := ok_is_version T G_is_integer
  have G_is_window := ok_is_window T G_is_version
  have G_require_window := ok_require_window T G_is_window G_InvalidWindowx_initx
  have G_require_version := ok_require_version T G_is_version G_InvalidVersionx_initx
  have G_require_windows := ok_require_windows T G_is_window G_InvalidWindowsx_initx
  have G_reaches := ok_reaches (P := P) (w := w) (base := base) T
  have G_contains := ok_contains T G_require_window G_require_version G_reaches
  have G_rises := ok_rises T G_require_window G_reaches
  have G_first_falling := ok_first_falling T G_require_windows G_rises
  have G_least_reaching := ok_least_reaching T G_first_falling G_require_version G_reaches G_InvalidWindowsx_initx
  have G_l_choice := ok_l_choice T G_l_draw
  have G_l_top := ok_l_top (P := P) (w := w) (base := base) T
  have G_l_falls := ok_l_falls T G_l_top
  have G_l_first := ok_l_first (P := P) (w := w) (base := base) T
  have G_l_windows := ok_l_windows T G_l_draw
  have G_l_moved := ok_l_moved (P := P) (w := w) (base := base) T
  have G_l_replaced := ok_l_replaced T G_l_draw
  have G_l_list_right := ok_l_list_right T G_l_draw G_l_top G_l_falls G_l_first G_contains G_rises G_first_falling G_least_reaching
  refine ok_g T.F_law sc_law (fun vs H Q E h => ?_) (fun cdv Ar outer s H vs Q E hr h => ?_)
  · obtain ⟨_, _, rfl, _⟩ := h; rfl
  · obtain ⟨sc, ns, rfl, hS, hl, q⟩ := h
    refine ⟨_, (pss_cons (ps_for PassesOwn.never rfl (pi_range1 rfl T.m_range (pa_cons (pe_callB (call_max2 rfl) (by rfl) T.m_max (by decide +kernel) (pa_cons pe_int (pa_cons (pe_callB (call_min2 rfl) (by rfl) T.m_min (by decide +kernel) (pa_cons (pe_callB call_lenN (by rfl) T.m_len (by decide +kernel) (pa_cons (pv 0) pa_nil)) (pa_cons pe_int pa_nil))) pa_nil))) pa_nil)) (pg_name (i := 1) sc_law.nd rfl (.inl rfl))
(pss_cons (ps_set (i := 2) sc_law.nd rfl (.inl rfl) (pe_call G_l_rng (hr.mono (by decide)) (by rfl) T.g_l_rng T.F_l_rng.kp T.b_l_rng .nil pass0 (pa_cons (pv 0) (pa_cons (pv 1) pa_nil))))
(pss_one (ps_for PassesOwn.never rfl (pi_range1 rfl T.m_range (pa_cons pe_int pa_nil)) (pg_name (i := 3) sc_law.nd rfl (.inl rfl))
(pss_cons (ps_set (i := 4) sc_law.nd rfl (.inl rfl) (pe_ifExp (pt_cmpR op_gt (pe_call G_l_draw (hr.mono (by decide)) (by rfl) T.g_l_draw T.F_l_draw.kp T.b_l_draw .nil pass0 (pa_cons (pv 2) (pa_cons pe_int pa_nil))) pe_int (nomark _)) pe_int pe_int))
(pss_cons (ps_set (i := 5) sc_law.nd rfl (.inl rfl) (pe_call G_l_windows (hr.mono (by decide)) (by rfl) T.g_l_windows T.F_l_windows.kp T.b_l_windows .nil pass0 (pa_cons (pv 2) (pa_cons (pe_call G_l_draw (hr.mono (by decide)) (by rfl) T.g_l_draw T.F_l_draw.kp T.b_l_draw .nil pass0 (pa_cons (pv 2) (pa_cons (pv 4) pa_nil))) (pa_cons (pe_call G_l_draw (hr.mono (by decide)) (by rfl) T.g_l_draw T.F_l_draw.kp T.b_l_draw .nil pass0 (pa_cons (pv 2) (pa_cons pe_int pa_nil))) pa_nil)))))
(pss_cons (ps_set (i := 5) sc_law.nd rfl (.inl rfl) (pe_call G_l_moved (hr.mono (by decide)) (by rfl) T.g_l_moved T.F_l_moved.kp T.b_l_moved .nil pass0 (pa_cons (pv 5) (pa_cons (pe_call G_l_choice (hr.mono (by decide)) (by rfl) T.g_l_choice T.F_l_choice.kp T.b_l_choice .nil pass0 (pa_cons (pv 2) (pa_cons (pe_lst (pa_cons pe_int (pa_cons pe_int (pa_cons (pe_op op_add pe_int (pe_call G_l_draw (hr.mono (by decide)) (by rfl) T.g_l_draw T.F_l_draw.kp T.b_l_draw .nil pass0 (pa_cons (pv 2) (pa_cons pe_int pa_nil)))) (pa_cons (pe_op op_pow pe_int pe_int) (pa_cons (pe_op op_pow pe_int pe_int) (pa_cons (pe_op op_pow pe_int pe_int) pa_nil))))))) pa_nil))) pa_nil))))
(pss_cons (ps_if (PW.pt (pw_or (pt_not (pt_val (pe_call G_l_list_right (hr.mono (by decide)) (by rfl) T.g_l_list_right T.F_l_list_right.kp T.b_l_list_right .nil pass0 (pa_cons (pv 2) (pa_cons (pv 5) pa_nil))))) (pw_or1 (pt_not (pt_val (pe_call G_l_list_right (hr.mono (by decide)) (by rfl) T.g_l_list_right T.F_l_list_right.kp T.b_l_list_right .nil pass0 (pa_cons (pv 2) (pa_cons (pe_call G_l_replaced (hr.mono (by decide)) (by rfl) T.g_l_replaced T.F_l_replaced.kp T.b_l_replaced .nil pass0 (pa_cons (pv 2) (pa_cons (pv 5) pa_nil))) pa_nil))))))))
(pss_one (ps_ret pe_bl))
pss_nil)
(pss_one (ps_if (pt_cmpR (op_neD hr.room.units) (pv 5) (pe_lst pa_nil) (nomark _))
(pss_cons (ps_set (i := 6) sc_law.nd rfl (.inl rfl) (pe_call G_l_draw (hr.mono (by decide)) (by rfl) T.g_l_draw T.F_l_draw.kp T.b_l_draw .nil pass0 (pa_cons (pv 2) (pa_cons pe_int pa_nil))))
(pss_cons (ps_asg (pe_tup (pa_cons (pv 6) (pa_cons (pe_ix ix_list (pe_lst (pa_cons pe_non (pa_cons (pv 6) (pa_cons (pe_op op_add (pv 6) pe_int) pa_nil)))) (pe_call G_l_draw (hr.mono (by decide)) (by rfl) T.g_l_draw T.F_l_draw.kp T.b_l_draw .nil pass0 (pa_cons (pv 2) (pa_cons pe_int pa_nil))) (fun _ _ => rfl)) pa_nil))) (pg_sub (pv 5) (pe_call G_l_draw (hr.mono (by decide)) (by rfl) T.g_l_draw T.F_l_draw.kp T.b_l_draw .nil pass0 (pa_cons (pv 2) (pa_cons (pe_callB call_lenN (by rfl) T.m_len (by decide +kernel) (pa_cons (pv 5) pa_nil)) pa_nil))) set_list))
(pss_one (ps_if (pt_not (pt_val (pe_call G_l_list_right (hr.mono (by decide)) (by rfl) T.g_l_list_right T.F_l_list_right.kp T.b_l_list_right .nil pass0 (pa_cons (pv 2) (pa_cons (pv 5) pa_nil)))))
(pss_one (ps_ret pe_bl))
pss_nil))))
pss_nil))))))))))
(pss_one (ps_ret (pe_and (pe_cmpR op_isBl (pe_callW G_rises (hr.room.mono (by decide)) (by rfl) T.g_rises T.F_rises.kp T.kb_rises_first_second passL (pk_cons (pe_tup (pa_cons pe_int (pa_cons pe_int pa_nil))) (pk_cons (pe_tup (pa_cons pe_int (pa_cons pe_non pa_nil))) pk_nil))) pe_bl (nomark _)) (pe_one (pe_cmpR op_isBl (pe_callW G_contains (hr.room.mono (by decide)) (by rfl) T.g_contains T.F_contains.kp T.kb_contains_version_window passL (pk_cons pe_int (pk_cons (pe_tup (pa_cons pe_int (pa_cons pe_int pa_nil))) pk_nil))) pe_bl (nomark _))))))), ?_⟩
    have hz : ns.length ≤ sizeLine := Nat.le_trans hl (by decide)
    repeat (walk_at "st")
    refine f_wk wk_range (fun i σ H' => Same H H' ∧ ∃ y1 y2 y3 y4 y5 y6, σ = [some (.ref sc), y1, y2, y3, y4, y5, y6]) ⟨Same.refl _, _, _, _, _, _, _, rfl⟩ (fun _ _ _ _ => trivial) (fun i x σ H' hx h => ?_) (fun σ H' h => ?_)
    · obtain ⟨sH, y1, y2, y3, y4, y5, y6, rfl⟩ := h
      obtain ⟨k, rfl, hk⟩ := rangeV_item hx
      repeat (walk_at "st")
      refine ⟨_, _, _, rfl, sH.seq hS, by omega, by (revert hk; split <;> split <;> omega), hl, fun p G1 n1 r1 s1 => ?_⟩
      repeat (walk_at "st")
      refine f_wk wk_range (fun i σ H2 => Off p G1 H2 ∧ Rok H2 p ∧ ∃ y3 y4 y5 y6, σ = [some (.ref sc), some (.int (0 + k)), some (.ref p), y3, y4, y5, y6]) ⟨Off.refl _ _, r1, _, _, _, _, rfl⟩ (fun _ _ _ _ => trivial) (fun i2 x2 σ H2 hx2 h2 => ?_) (fun σ H2 h2 => ?_)
      · obtain ⟨o2, r2, y3, y4, y5, y6, rfl⟩ := h2
        repeat (walk_at "st")
        refine ⟨_, _, rfl, (by walk_at "side"), (by first | decide | decide +kernel | assumption), (by walk_at "rok"), fun d3 G3 dl3 dh3 r3 o3 => ?_⟩
        repeat (walk_at "st")
        refine i_ifC (good := fun v => ∃ m : Int, v = .int m ∧ 0 < m ∧ m ≤ 41) ⟨13, rfl, by decide, by decide⟩ ⟨41, rfl, by decide, by decide⟩ ?_
        rintro _ ⟨mo, rfl, mo0, mo1⟩
        have lbm : mo.natAbs.log2 < 9000 := Nat.lt_of_le_of_lt (Nat.log2_le_self _) (by omega)
        repeat (walk_at "st")
        refine ⟨_, _, rfl, (by walk_at "side"), (by first | decide | decide +kernel | assumption), (by walk_at "rok"), fun d4 G4 dl4 dh4 r4 o4 => ?_⟩
        repeat (walk_at "st")
        refine ⟨_, _, rfl, (by walk_at "side"), (by first | decide | decide +kernel | assumption), (by walk_at "rok"), fun d5 G5 dl5 dh5 r5 o5 => ?_⟩
        repeat (walk_at "st")
        refine ⟨_, _, _, rfl, r5, by omega, by omega, by omega, by omega, fun a ws G6 hw6 wl6 sm6 n6 o6 r6 => ?_⟩
        repeat (walk_at "st")
        refine ⟨_, _, rfl, (by walk_at "side"), (by first | decide | decide +kernel | assumption), (by walk_at "rok"), fun d7 G7 dl7 dh7 r7 o7 => ?_⟩
        repeat (walk_at "st")
        refine i_new fun p8 G8 n8 s8 e8 => ?_
        repeat (walk_at "st")
        have ne8 : p8 ≠ p := (r7.ne n8)
        refine ⟨_, _, _, rfl, e8, ne8, by simp, by simp, r7.same s8, fun v9 G9 hv9 r9 o9 => ?_⟩
        have k9 : ∃ f : Int, v9 = .int f ∧ 0 ≤ f ∧ f ≤ 10 ^ 58 := by
          have z1 : (10 : Int) ^ Int.toNat 9 ≤ 10 ^ 58 ∧ (10 : Int) ^ Int.toNat 20 ≤ 10 ^ 58 ∧ (10 : Int) ^ Int.toNat 58 ≤ 10 ^ 58 ∧ (20 : Int) ≤ 10 ^ 58 := by decide +kernel
          have z2 : (0 : Int) ≤ 10 ^ Int.toNat 9 ∧ (0 : Int) ≤ 10 ^ Int.toNat 20 ∧ (0 : Int) ≤ 10 ^ Int.toNat 58 := by decide +kernel
          obtain ⟨a1, a2, a3, a4⟩ := z1
          obtain ⟨b1, b2, b3⟩ := z2
          simp only [List.mem_cons, List.not_mem_nil, or_false] at hv9
          rcases hv9 with rfl | rfl | rfl | rfl | rfl | rfl
          · exact ⟨_, rfl, by omega, by omega⟩
          · exact ⟨_, rfl, by omega, by omega⟩
          · exact ⟨_, rfl, by omega, by omega⟩
          · exact ⟨_, rfl, b1, a1⟩
          · exact ⟨_, rfl, b2, a2⟩
          · exact ⟨_, rfl, b3, a3⟩
        obtain ⟨f, rfl, f0, f1⟩ := k9
        repeat (walk_at "st")
        have hw9 := ((hw6.off o7).off (.of_same s8)).off o9
        have wl : ws.length ≤ 50 := by omega
        refine ⟨_, ws, f, rfl, hw9.da, by omega, fun b ys G10 n10 s10 e10 d10 => ?_⟩
        have nbp : b ≠ p := r9.ne n10
        have nG1 : G1 b = none := by
          cases e : G1 b with
          | none => rfl
          | some u =>
            have off9 : Off p G1 G9 := by walk_at "off"
            rw [off9 _ _ nbp e] at n10
            cases n10
        have hw10 : WLs K G10 p b (ws.map (moveW f)) := by
          obtain ⟨_, _, ho, _⟩ := id r9
          exact ⟨nbp, ys, e10, d10.same (Same.wo (newP_wo ho))⟩
        have r10 := r9.same s10
        have off10 : Off p G1 G10 := by walk_at "off"
        have w10 : ∀ w ∈ ws.map (moveW f), W60 w := fun w hw => by
          obtain ⟨u, hu, rfl⟩ := List.mem_map.mp hw
          exact (sm6 u hu).move f0 f1
        have wl10 : (ws.map (moveW f)).length ≤ 50 := by rw [List.length_map]; exact wl
        generalize ws.map (moveW f) = us at *
        clear d10 s10 o9 s8 o7 o6 o5 o4 o3 hw9 hw6 e8
        repeat (walk_at "st")
        refine ⟨_, _, us, rfl, hw10, r10, by omega, w10, fun G11 o11 r11 => ?_⟩
        repeat (walk_at "st")
        refine i_ff (by rfl) ?_
        repeat (walk_at "st")
        refine ⟨_, _, us, rfl, hw10.off o11, r11, by omega, fun c us2 G12 n12 hw12 wl12 sm12 o12 r12 => ?_⟩
        repeat (walk_at "st")
        refine ⟨_, _, us2, rfl, hw12, r12, by omega, fun w hw => ?_, fun G13 o13 r13 => ?_⟩
        · rcases sm12 w hw with z | z
          · exact w10 w z
          · exact z.w60
        repeat (walk_at "st")
        refine i_ff (by rfl) ?_
        repeat (walk_at "st")
        have off13 : Off p G1 G13 := off10.trans (o11.trans (o12.trans o13))
        have hw13 := hw10.off (o11.trans (o12.trans o13))
        refine i_new fun p14 G14 n14 s14 e14 => ?_
        have hw14 := hw13.off (.of_same s14)
        have off14 : Off p G1 G14 := off13.trans (.of_same s14)
        have r14 := r13.same s14
        refine i_neD hw14.da (Da.lst (SqL.of e14) .nil) (nd_wins us) rfl (shaped_wins us) rfl ?_
        rw [eqv_nil]
        clear off13 hw13 hw10 off10 hw12 r10 r11 r12 r13 s14 o11 o12 o13 e14
        repeat (walk_at "st")
        refine i_ite (fun eN => ?_) (fun eN => ?_)
        · have upos : 0 < us.length := by
            cases us with
            | nil => simp at eN
            | cons u us => simp
          obtain ⟨_, xs, eL, _⟩ := id hw14
          have xl := hw14.len eL
          have lb : (xs.length : Int).natAbs.log2 < 9000 := Nat.lt_of_le_of_lt (Nat.log2_le_self _) (by omega)
          repeat (walk_at "st")
          refine ⟨_, _, rfl, (by walk_at "side"), (by first | decide | decide +kernel | assumption), (by walk_at "rok"), fun d15 G15 dl15 dh15 r15 o15 => ?_⟩
          repeat (walk_at "st")
          refine i_new fun p16 G16 n16 s16 e16 => ?_
          repeat (walk_at "st")
          refine ⟨_, _, rfl, (by walk_at "side"), (by first | decide | decide +kernel | assumption), (by walk_at "rok"), fun d17 G17 dl17 dh17 r17 o17 => ?_⟩
          obtain ⟨v17, hv17, ev17⟩ := atI_lt (xs := [V.non, V.int d15, V.int (d15 + 7)]) dl17 dh17
          have k17 : ∃ o : Option Int, v17 = hiV o ∧ ∀ h, o = some h → d15 ≤ h ∧ h ≤ d15 + 10 := by
            simp only [List.mem_cons, List.not_mem_nil, or_false] at hv17
            rcases hv17 with rfl | rfl | rfl
            · exact ⟨none, rfl, fun h z => by cases z⟩
            · exact ⟨some d15, rfl, fun h z => by cases z; omega⟩
            · exact ⟨some (d15 + 7), rfl, fun h z => by cases z; omega⟩
          obtain ⟨o, rfl, ho⟩ := k17
          repeat (walk_at "st")
          refine i_new fun p18 G18 n18 s18 e18 => ?_
          have nb : b ≠ p := nbp
          have e18L : G18 b = some (.lst xs) := s18 _ _ (o17.get nb (s16 _ _ (o15.get nb eL)))
          repeat (walk_at "st")
          refine ⟨_, _, rfl, (by walk_at "side"), (by first | decide | decide +kernel | assumption), (by walk_at "rok"), fun d19 G19 dl19 dh19 r19 o19 => ?_⟩
          have e19L : G19 b = some (.lst xs) := o19.get nb e18L
          have ix : ixN xs.length d19 = some d19.toNat := by
            unfold ixN
            rw [if_pos dl19, if_pos dh19]
          refine i_rSetL e19L ix ?_
          refine i_put fun G20 o20 e20 => ?_
          have hw19 : WLs K G19 p b us := ((((hw14.off o15).off (.of_same s16)).off o17).off (.of_same s18)).off o19
          have ne18 : p18 ≠ p := (r17.ne n18)
          have ne18b : p18 ≠ b := (ne_of_none (o17.get nb (s16 _ _ (o15.get nb eL))) n18).symm
          have hw20 := WLs.set (w := (d15, o)) hw19 e19L o20 e20 (da_win2 ne18b ne18 (o19.get ne18 e18))
          have off19 : Off p G1 G19 := off14.trans (o15.trans ((Off.of_same s16).trans (o17.trans ((Off.of_same s18).trans o19))))
          have off20 : Off p G1 G20 := fun c u n e => o20 c u (ne_of_none e nG1) (off19 c u n e)
          have r20 : Rok G20 p := r19.off o20 nb.symm
          have w20 : ∀ w ∈ us.set d19.toNat (d15, o), W60 w := fun w hw => by
            rcases List.mem_or_eq_of_mem_set hw with z | z
            · exact w10 w z
            · rw [z]
              exact small.w60 ⟨⟨dl15, fun h z => (ho h z).1⟩, by dsimp only; omega, fun h z => by have := (ho h z).2; omega⟩
          have wl20 : (us.set d19.toNat (d15, o)).length ≤ 100 := by rw [List.length_set]; omega
          clear s18 s16 o15 o17 o19 o20 hw19 e18 e16 e20 e19L e18L
          repeat (walk_at "st")
          refine ⟨_, _, _, rfl, hw20, r20, wl20, w20, fun G21 o21 r21 => ?_⟩
          repeat (walk_at "st")
          refine i_ff (by rfl) ?_
          exact ⟨off20.trans o21, r21, _, _, _, _, rfl⟩
        · exact ⟨off14, r14, _, _, _, _, rfl⟩
      · obtain ⟨o2, r2, y3, y4, y5, y6, rfl⟩ := h2
        exact ⟨sH.trans (Off.new n1 s1 o2), _, _, _, _, _, _, rfl⟩
    · obtain ⟨sH, y1, y2, y3, y4, y5, y6, rfl⟩ := h
      repeat (walk_at "st")
      refine i_new fun p1 G1 n1 s1 e1 => ?_
      repeat (walk_at "st")
      refine i_new fun p2 G2 n2 s2 e2 => ?_
      repeat (walk_at "st")
      have dA : ∀ H', Same G2 H' → Da K H' (.ref p1) (winD (0, some 1)) := fun H' s => (da_winT (w := (0, some 1)) (SqT.of (s _ _ (s2 _ _ e1)))).da
      have dB : ∀ H', Same G2 H' → Da K H' (.ref p2) (winD (0, none)) := fun H' s => (da_winT (w := (0, none)) (SqT.of (s _ _ e2))).da
      have okA : okW (0, some 1) := ⟨by decide, fun h z => by cases z; decide⟩
      have okB : okW (0, none) := ⟨by decide, fun h z => by cases z⟩
      refine ⟨_, _, _, _, rfl, dA _ (Same.refl _), dB _ (Same.refl _), fun w u hw hu G3 s3 => ?_, (fun z => by rw [winB_ok okA] at z; cases z), fun _ z => by rw [winB_ok okB] at z; cases z⟩
      rw [winP_D okA] at hw
      rw [winP_D okB] at hu
      cases hw
      cases hu
      have er : risesW (0, some 1) (0, none) = true := rfl
      rw [er]
      repeat (walk_at "st")
      refine i_tt (by rfl) ?_
      repeat (walk_at "st")
      refine i_new fun p4 G4 n4 s4 e4 => ?_
      repeat (walk_at "st")
      have okC : okW (1, some 3) := ⟨by decide, fun h z => by cases z; decide⟩
      have dC : Da K G4 (.ref p4) (winD (1, some 3)) := (da_winT (w := (1, some 3)) (SqT.of e4)).da
      refine ⟨_, _, _, _, rfl, dC, DaF.int 2, fun w m hw hm _ G5 s5 => ?_, (fun z => by rw [winB_ok okC] at z; cases z), fun _ z => (by cases z)⟩
      rw [winP_D okC] at hw
      cases hw
      cases hm
      have er : contW (1, some 3) 2 = true := by decide
      rw [er]
      repeat (walk_at "st")
      exact q _
theorem sp_law_of {K : PySem.W.Frag} {H : Hp} {a : Addr} {ns : List Int} (hl : ns.length ≤ 63) (_ : ∀ z ∈ ns, Builtin.Int.intBits z ≤ 1048576) (hS : SqL K H a (ns.map V.int)) : sp_law K [.ref a] H (fun v _ => v = .bl true) fun _ _ _ => False := ⟨a, ns, rfl, hS, hl, fun _ => rfl⟩
theorem all_mk {l : PySem.W.OpenLaw} {w : World} {K : PySem.W.Frag} {h : Heap} {mg : Str → Option Value} {fa : Addr} (X : K.In h) (G : h.Ns mainGlobals mg) (hfa : mg "law" = some (.ref fa))
    {f0 : Addr} {od0 an0 : Option Addr} {sl0 : Array (Option Value)} {oc0 kV0 dc0 pm0 cd0 ct0 : Value}
    {f1 : Addr} {od1 an1 : Option Addr} {sl1 : Array (Option Value)} {oc1 kV1 dc1 pm1 cd1 ct1 : Value}
    {f2 : Addr} {od2 an2 : Option Addr} {sl2 : Array (Option Value)} {oc2 kV2 dc2 pm2 cd2 ct2 : Value}
    {f3 : Addr} {od3 an3 : Option Addr} {sl3 : Array (Option Value)} {oc3 kV3 dc3 pm3 cd3 ct3 : Value}
    {f4 : Addr} {od4 an4 : Option Addr} {sl4 : Array (Option Value)} {oc4 kV4 dc4 pm4 cd4 ct4 : Value}
    {f5 : Addr} {od5 an5 : Option Addr} {sl5 : Array (Option Value)} {oc5 kV5 dc5 pm5 cd5 ct5 : Value}
    {f6 : Addr} {od6 an6 : Option Addr} {sl6 : Array (Option Value)} {oc6 kV6 dc6 pm6 cd6 ct6 : Value}
    {f7 : Addr} {od7 an7 : Option Addr} {sl7 : Array (Option Value)} {oc7 kV7 dc7 pm7 cd7 ct7 : Value}
    {f8 : Addr} {od8 an8 : Option Addr} {sl8 : Array (Option Value)} {oc8 kV8 dc8 pm8 cd8 ct8 : Value}
    {f9 : Addr} {od9 an9 : Option Addr} {sl9 : Array (Option Value)} {oc9 kV9 dc9 pm9 cd9 ct9 : Value}
    {f10 : Addr} {od10 an10 : Option Addr} {sl10 : Array (Option Value)} {oc10 kV10 dc10 pm10 cd10 ct10 : Value}
    {f11 : Addr} {od11 an11 : Option Addr} {sl11 : Array (Option Value)} {oc11 kV11 dc11 pm11 cd11 ct11 : Value}
    {f12 : Addr} {od12 an12 : Option Addr} {sl12 : Array (Option Value)} {oc12 kV12 dc12 pm12 cd12 ct12 : Value}
    {f13 : Addr} {od13 an13 : Option Addr} {sl13 : Array (Option Value)} {oc13 kV13 dc13 pm13 cd13 ct13 : Value}
    {f14 : Addr} {od14 an14 : Option Addr} {sl14 : Array (Option Value)} {oc14 kV14 dc14 pm14 cd14 ct14 : Value}
    {f15 : Addr} {od15 an15 : Option Addr} {sl15 : Array (Option Value)} {oc15 kV15 dc15 pm15 cd15 ct15 : Value}
    {f16 : Addr} {od16 an16 : Option Addr} {sl16 : Array (Option Value)} {oc16 kV16 dc16 pm16 cd16 ct16 : Value}
    {f17 : Addr} {od17 an17 : Option Addr} {sl17 : Array (Option Value)} {oc17 kV17 dc17 pm17 cd17 ct17 : Value}
    {f18 : Addr} {od18 an18 : Option Addr} {sl18 : Array (Option Value)} {oc18 kV18 dc18 pm18 cd18 ct18 : Value}
    {f19 : Addr} {od19 an19 : Option Addr} {sl19 : Array (Option Value)} {oc19 kV19 dc19 pm19 cd19 ct19 : Value}
    {f20 : Addr} {od20 an20 : Option Addr} {sl20 : Array (Option Value)} {oc20 kV20 dc20 pm20 cd20 ct20 : Value}
    {f21 : Addr} {od21 an21 : Option Addr} {sl21 : Array (Option Value)} {oc21 kV21 dc21 pm21 cd21 ct21 : Value}
    {f22 : Addr} {od22 an22 : Option Addr} {sl22 : Array (Option Value)} {oc22 kV22 dc22 pm22 cd22 ct22 : Value}
    {f23 : Addr} {od23 an23 : Option Addr} {sl23 : Array (Option Value)} {oc23 kV23 dc23 pm23 cd23 ct23 : Value}
    {f24 : Addr} {od24 an24 : Option Addr} {sl24 : Array (Option Value)} {oc24 kV24 dc24 pm24 cd24 ct24 : Value}
    {k_GroupError : Addr} (qX_GroupError : PySem.W.nsIn K mainGlobals "GroupError" = some (some (.ref k_GroupError)))
    {k_InvalidVersion : Addr} (qX_InvalidVersion : PySem.W.nsIn K mainGlobals "InvalidVersion" = some (some (.ref k_InvalidVersion)))
    {k_InvalidWindow : Addr} (qX_InvalidWindow : PySem.W.nsIn K mainGlobals "InvalidWindow" = some (some (.ref k_InvalidWindow)))
    {k_InvalidWindows : Addr} (qX_InvalidWindows : PySem.W.nsIn K mainGlobals "InvalidWindows" = some (some (.ref k_InvalidWindows)))
    (a0 : PySem.W.findIn K (.ref k_InvalidVersion) "__init__" = some (some (.ref f0)))
    (l0 : K.lookup f0 = some ⟨oc0, od0, .func (PySem.W.fnOf "__init__" "InvalidVersion.__init__" (defArgs s_InvalidVersionx_initx) (defBody s_InvalidVersionx_initx) (defScope s_InvalidVersionx_initx) .none kV0 dc0 pm0 an0 cd0 ct0), sl0⟩) (c0 : PySem.W.codeIn K cd0 "InvalidVersion.__init__" = true) (k0 : PySem.W.keepIn K (.ref f0) = true)
    (a1 : PySem.W.findIn K (.ref k_InvalidWindow) "__init__" = some (some (.ref f1)))
    (l1 : K.lookup f1 = some ⟨oc1, od1, .func (PySem.W.fnOf "__init__" "InvalidWindow.__init__" (defArgs s_InvalidWindowx_initx) (defBody s_InvalidWindowx_initx) (defScope s_InvalidWindowx_initx) .none kV1 dc1 pm1 an1 cd1 ct1), sl1⟩) (c1 : PySem.W.codeIn K cd1 "InvalidWindow.__init__" = true) (k1 : PySem.W.keepIn K (.ref f1) = true)
    (a2 : PySem.W.findIn K (.ref k_InvalidWindows) "__init__" = some (some (.ref f2)))
    (l2 : K.lookup f2 = some ⟨oc2, od2, .func (PySem.W.fnOf "__init__" "InvalidWindows.__init__" (defArgs s_InvalidWindowsx_initx) (defBody s_InvalidWindowsx_initx) (defScope s_InvalidWindowsx_initx) .none kV2 dc2 pm2 an2 cd2 ct2), sl2⟩) (c2 : PySem.W.codeIn K cd2 "InvalidWindows.__init__" = true) (k2 : PySem.W.keepIn K (.ref f2) = true)
    (a3 : PySem.W.nsIn K mainGlobals "is_integer" = some (some (.ref f3)))
    (l3 : K.lookup f3 = some ⟨oc3, od3, .func (PySem.W.fnOf "is_integer" "is_integer" (defArgs s_is_integer) (defBody s_is_integer) (defScope s_is_integer) .none kV3 dc3 pm3 an3 cd3 ct3), sl3⟩) (c3 : PySem.W.codeIn K cd3 "is_integer" = true) (k3 : PySem.W.keepIn K (.ref f3) = true)
    (a4 : PySem.W.nsIn K mainGlobals "is_version" = some (some (.ref f4)))
    (l4 : K.lookup f4 = some ⟨oc4, od4, .func (PySem.W.fnOf "is_version" "is_version" (defArgs s_is_version) (defBody s_is_version) (defScope s_is_version) .none kV4 dc4 pm4 an4 cd4 ct4), sl4⟩) (c4 : PySem.W.codeIn K cd4 "is_version" = true) (k4 : PySem.W.keepIn K (.ref f4) = true)
    (a5 : PySem.W.nsIn K mainGlobals "require_version" = some (some (.ref f5)))
    (l5 : K.lookup f5 = some ⟨oc5, od5, .func (PySem.W.fnOf "require_version" "require_version" (defArgs s_require_version) (defBody s_require_version) (defScope s_require_version) .none kV5 dc5 pm5 an5 cd5 ct5), sl5⟩) (c5 : PySem.W.codeIn K cd5 "require_version" = true) (k5 : PySem.W.keepIn K (.ref f5) = true)
    (a6 : PySem.W.nsIn K mainGlobals "is_window" = some (some (.ref f6)))
    (l6 : K.lookup f6 = some ⟨oc6, od6, .func (PySem.W.fnOf "is_window" "is_window" (defArgs s_is_window) (defBody s_is_window) (defScope s_is_window) .none kV6 dc6 pm6 an6 cd6 ct6), sl6⟩) (c6 : PySem.W.codeIn K cd6 "is_window" = true) (k6 : PySem.W.keepIn K (.ref f6) = true)
    (a7 : PySem.W.nsIn K mainGlobals "require_window" = some (some (.ref f7)))
    (l7 : K.lookup f7 = some ⟨oc7, od7, .func (PySem.W.fnOf "require_window" "require_window" (defArgs s_require_window) (defBody s_require_window) (defScope s_require_window) .none kV7 dc7 pm7 an7 cd7 ct7), sl7⟩) (c7 : PySem.W.codeIn K cd7 "require_window" = true) (k7 : PySem.W.keepIn K (.ref f7) = true)
    (a8 : PySem.W.nsIn K mainGlobals "require_windows" = some (some (.ref f8)))
    (l8 : K.lookup f8 = some ⟨oc8, od8, .func (PySem.W.fnOf "require_windows" "require_windows" (defArgs s_require_windows) (defBody s_require_windows) (defScope s_require_windows) .none kV8 dc8 pm8 an8 cd8 ct8), sl8⟩) (c8 : PySem.W.codeIn K cd8 "require_windows" = true) (k8 : PySem.W.keepIn K (.ref f8) = true)
    (a9 : PySem.W.nsIn K mainGlobals "reaches" = some (some (.ref f9)))
    (l9 : K.lookup f9 = some ⟨oc9, od9, .func (PySem.W.fnOf "reaches" "reaches" (defArgs s_reaches) (defBody s_reaches) (defScope s_reaches) .none kV9 dc9 pm9 an9 cd9 ct9), sl9⟩) (c9 : PySem.W.codeIn K cd9 "reaches" = true) (k9 : PySem.W.keepIn K (.ref f9) = true)
    (a10 : PySem.W.nsIn K mainGlobals "contains" = some (some (.ref f10)))
    (l10 : K.lookup f10 = some ⟨oc10, od10, .func (PySem.W.fnOf "contains" "contains" (defArgs s_contains) (defBody s_contains) (defScope s_contains) .none kV10 dc10 pm10 an10 cd10 ct10), sl10⟩) (c10 : PySem.W.codeIn K cd10 "contains" = true) (k10 : PySem.W.keepIn K (.ref f10) = true)
    (a11 : PySem.W.nsIn K mainGlobals "rises" = some (some (.ref f11)))
    (l11 : K.lookup f11 = some ⟨oc11, od11, .func (PySem.W.fnOf "rises" "rises" (defArgs s_rises) (defBody s_rises) (defScope s_rises) .none kV11 dc11 pm11 an11 cd11 ct11), sl11⟩) (c11 : PySem.W.codeIn K cd11 "rises" = true) (k11 : PySem.W.keepIn K (.ref f11) = true)
    (a12 : PySem.W.nsIn K mainGlobals "first_falling" = some (some (.ref f12)))
    (l12 : K.lookup f12 = some ⟨oc12, od12, .func (PySem.W.fnOf "first_falling" "first_falling" (defArgs s_first_falling) (defBody s_first_falling) (defScope s_first_falling) .none kV12 dc12 pm12 an12 cd12 ct12), sl12⟩) (c12 : PySem.W.codeIn K cd12 "first_falling" = true) (k12 : PySem.W.keepIn K (.ref f12) = true)
    (a13 : PySem.W.nsIn K mainGlobals "least_reaching" = some (some (.ref f13)))
    (l13 : K.lookup f13 = some ⟨oc13, od13, .func (PySem.W.fnOf "least_reaching" "least_reaching" (defArgs s_least_reaching) (defBody s_least_reaching) (defScope s_least_reaching) .none kV13 dc13 pm13 an13 cd13 ct13), sl13⟩) (c13 : PySem.W.codeIn K cd13 "least_reaching" = true) (k13 : PySem.W.keepIn K (.ref f13) = true)
    (a14 : PySem.W.nsIn K mainGlobals "_law_rng" = some (some (.ref f14)))
    (l14 : K.lookup f14 = some ⟨oc14, od14, .func (PySem.W.fnOf "_law_rng" "_law_rng" (defArgs s_l_rng) (defBody s_l_rng) (defScope s_l_rng) .none kV14 dc14 pm14 an14 cd14 ct14), sl14⟩) (c14 : PySem.W.codeIn K cd14 "_law_rng" = true) (k14 : PySem.W.keepIn K (.ref f14) = true)
    (a15 : PySem.W.nsIn K mainGlobals "_law_draw" = some (some (.ref f15)))
    (l15 : K.lookup f15 = some ⟨oc15, od15, .func (PySem.W.fnOf "_law_draw" "_law_draw" (defArgs s_l_draw) (defBody s_l_draw) (defScope s_l_draw) .none kV15 dc15 pm15 an15 cd15 ct15), sl15⟩) (c15 : PySem.W.codeIn K cd15 "_law_draw" = true) (k15 : PySem.W.keepIn K (.ref f15) = true)
    (a16 : PySem.W.nsIn K mainGlobals "_law_choice" = some (some (.ref f16)))
    (l16 : K.lookup f16 = some ⟨oc16, od16, .func (PySem.W.fnOf "_law_choice" "_law_choice" (defArgs s_l_choice) (defBody s_l_choice) (defScope s_l_choice) .none kV16 dc16 pm16 an16 cd16 ct16), sl16⟩) (c16 : PySem.W.codeIn K cd16 "_law_choice" = true) (k16 : PySem.W.keepIn K (.ref f16) = true)
    (a17 : PySem.W.nsIn K mainGlobals "_law_windows" = some (some (.ref f17)))
    (l17 : K.lookup f17 = some ⟨oc17, od17, .func (PySem.W.fnOf "_law_windows" "_law_windows" (defArgs s_l_windows) (defBody s_l_windows) (defScope s_l_windows) .none kV17 dc17 pm17 an17 cd17 ct17), sl17⟩) (c17 : PySem.W.codeIn K cd17 "_law_windows" = true) (k17 : PySem.W.keepIn K (.ref f17) = true)
    (a18 : PySem.W.nsIn K mainGlobals "_law_top" = some (some (.ref f18)))
    (l18 : K.lookup f18 = some ⟨oc18, od18, .func (PySem.W.fnOf "_law_top" "_law_top" (defArgs s_l_top) (defBody s_l_top) (defScope s_l_top) .none kV18 dc18 pm18 an18 cd18 ct18), sl18⟩) (c18 : PySem.W.codeIn K cd18 "_law_top" = true) (k18 : PySem.W.keepIn K (.ref f18) = true)
    (a19 : PySem.W.nsIn K mainGlobals "_law_falls" = some (some (.ref f19)))
    (l19 : K.lookup f19 = some ⟨oc19, od19, .func (PySem.W.fnOf "_law_falls" "_law_falls" (defArgs s_l_falls) (defBody s_l_falls) (defScope s_l_falls) .none kV19 dc19 pm19 an19 cd19 ct19), sl19⟩) (c19 : PySem.W.codeIn K cd19 "_law_falls" = true) (k19 : PySem.W.keepIn K (.ref f19) = true)
    (a20 : PySem.W.nsIn K mainGlobals "_law_first" = some (some (.ref f20)))
    (l20 : K.lookup f20 = some ⟨oc20, od20, .func (PySem.W.fnOf "_law_first" "_law_first" (defArgs s_l_first) (defBody s_l_first) (defScope s_l_first) .none kV20 dc20 pm20 an20 cd20 ct20), sl20⟩) (c20 : PySem.W.codeIn K cd20 "_law_first" = true) (k20 : PySem.W.keepIn K (.ref f20) = true)
    (a21 : PySem.W.nsIn K mainGlobals "_law_replaced" = some (some (.ref f21)))
    (l21 : K.lookup f21 = some ⟨oc21, od21, .func (PySem.W.fnOf "_law_replaced" "_law_replaced" (defArgs s_l_replaced) (defBody s_l_replaced) (defScope s_l_replaced) .none kV21 dc21 pm21 an21 cd21 ct21), sl21⟩) (c21 : PySem.W.codeIn K cd21 "_law_replaced" = true) (k21 : PySem.W.keepIn K (.ref f21) = true)
    (a22 : PySem.W.nsIn K mainGlobals "_law_moved" = some (some (.ref f22)))
    (l22 : K.lookup f22 = some ⟨oc22, od22, .func (PySem.W.fnOf "_law_moved" "_law_moved" (defArgs s_l_moved) (defBody s_l_moved) (defScope s_l_moved) .none kV22 dc22 pm22 an22 cd22 ct22), sl22⟩) (c22 : PySem.W.codeIn K cd22 "_law_moved" = true) (k22 : PySem.W.keepIn K (.ref f22) = true)
    (a23 : PySem.W.nsIn K mainGlobals "_law_list_right" = some (some (.ref f23)))
    (l23 : K.lookup f23 = some ⟨oc23, od23, .func (PySem.W.fnOf "_law_list_right" "_law_list_right" (defArgs s_l_list_right) (defBody s_l_list_right) (defScope s_l_list_right) .none kV23 dc23 pm23 an23 cd23 ct23), sl23⟩) (c23 : PySem.W.codeIn K cd23 "_law_list_right" = true) (k23 : PySem.W.keepIn K (.ref f23) = true)
    (a24 : PySem.W.nsIn K mainGlobals "law" = some (some (.ref f24)))
    (l24 : K.lookup f24 = some ⟨oc24, od24, .func (PySem.W.fnOf "law" "law" (defArgs s_law) (defBody s_law) (defScope s_law) .none kV24 dc24 pm24 an24 cd24 ct24), sl24⟩) (c24 : PySem.W.codeIn K cd24 "law" = true) (k24 : PySem.W.keepIn K (.ref f24) = true)
    (z_abs : PySem.W.nsIn K mainGlobals "abs" = some none)
    (z_bool : PySem.W.nsIn K mainGlobals "bool" = some none)
    (z_divmod : PySem.W.nsIn K mainGlobals "divmod" = some none)
    (z_enumerate : PySem.W.nsIn K mainGlobals "enumerate" = some none)
    (z_int : PySem.W.nsIn K mainGlobals "int" = some none)
    (z_isinstance : PySem.W.nsIn K mainGlobals "isinstance" = some none)
    (z_len : PySem.W.nsIn K mainGlobals "len" = some none)
    (z_list : PySem.W.nsIn K mainGlobals "list" = some none)
    (z_max : PySem.W.nsIn K mainGlobals "max" = some none)
    (z_min : PySem.W.nsIn K mainGlobals "min" = some none)
    (z_range : PySem.W.nsIn K mainGlobals "range" = some none)
    (z_repr : PySem.W.nsIn K mainGlobals "repr" = some none)
    (z_tuple : PySem.W.nsIn K mainGlobals "tuple" = some none)
    (z_zip : PySem.W.nsIn K mainGlobals "zip" = some none)
    (cg1 : PySem.W.specialIn K (.builtin "object.__class__") "__get__" = some (some (.builtin "getset_descriptor.__get__"))) (cg2 : PySem.W.takesIn K (.builtin "object.__class__") = some true)
    (xini_GroupError : PySem.W.excInitIn K k_GroupError (tailOf "ValueError") "ValueError.__new__" = true)
    (xov_GroupError : PySem.W.excOver K k_GroupError (tailOf "ValueError") = true)
    (xsa_GroupError : PySem.W.findIn K (.ref k_GroupError) "__setattr__" = some (some (.builtin "object.__setattr__")))
    (xhd_GroupError : PySem.W.hasDictIn K k_GroupError = true)
    (xexC_GroupError : PySem.W.subIn K (.ref k_GroupError) (.type "BaseException") = some true)
    (xtyC_GroupError : PySem.W.typeIn K (.ref k_GroupError) = some (.type "type"))
    (xkC_GroupError : PySem.W.keepIn K (.ref k_GroupError) = true)
    (xga_GroupError : PySem.W.findIn K (.ref k_GroupError) "__getattribute__" = some (some (.builtin "BaseException.__getattribute__")))
    (xgg_GroupError : PySem.W.findIn K (.ref k_GroupError) "__getattr__" = some none)
    (xcl_GroupError : PySem.W.findIn K (.ref k_GroupError) "__class__" = some (some (.builtin "object.__class__")))
    (xhm_GroupError : PySem.W.mroIn K k_GroupError (.type "object") = some true)
    (xsp_GroupError : PySem.W.specialIn K (.ref k_GroupError) "__getattribute__" = some (some (.builtin "type.__getattribute__")))
    (xrd_GroupError : PySem.W.readsIn K k_GroupError (.type "type") = true)
    (xfc_GroupError : PySem.W.findCls K (.ref k_GroupError) (.type "type") "__init__" = some (.val (.builtin "ValueError.__init__")))
    (xini_InvalidVersion : PySem.W.excInitIn K k_InvalidVersion (tailOf "ValueError") "ValueError.__new__" = true)
    (xov_InvalidVersion : PySem.W.excOver K k_InvalidVersion (tailOf "ValueError") = true)
    (xsa_InvalidVersion : PySem.W.findIn K (.ref k_InvalidVersion) "__setattr__" = some (some (.builtin "object.__setattr__")))
    (xhd_InvalidVersion : PySem.W.hasDictIn K k_InvalidVersion = true)
    (xexC_InvalidVersion : PySem.W.subIn K (.ref k_InvalidVersion) (.type "BaseException") = some true)
    (xtyC_InvalidVersion : PySem.W.typeIn K (.ref k_InvalidVersion) = some (.type "type"))
    (xkC_InvalidVersion : PySem.W.keepIn K (.ref k_InvalidVersion) = true)
    (xga_InvalidVersion : PySem.W.findIn K (.ref k_InvalidVersion) "__getattribute__" = some (some (.builtin "BaseException.__getattribute__")))
    (xgg_InvalidVersion : PySem.W.findIn K (.ref k_InvalidVersion) "__getattr__" = some none)
    (xcl_InvalidVersion : PySem.W.findIn K (.ref k_InvalidVersion) "__class__" = some (some (.builtin "object.__class__")))
    (xhm_InvalidVersion : PySem.W.mroIn K k_InvalidVersion (.type "object") = some true)
    (xini_InvalidWindow : PySem.W.excInitIn K k_InvalidWindow (tailOf "ValueError") "ValueError.__new__" = true)
    (xov_InvalidWindow : PySem.W.excOver K k_InvalidWindow (tailOf "ValueError") = true)
    (xsa_InvalidWindow : PySem.W.findIn K (.ref k_InvalidWindow) "__setattr__" = some (some (.builtin "object.__setattr__")))
    (xhd_InvalidWindow : PySem.W.hasDictIn K k_InvalidWindow = true)
    (xexC_InvalidWindow : PySem.W.subIn K (.ref k_InvalidWindow) (.type "BaseException") = some true)
    (xtyC_InvalidWindow : PySem.W.typeIn K (.ref k_InvalidWindow) = some (.type "type"))
    (xkC_InvalidWindow : PySem.W.keepIn K (.ref k_InvalidWindow) = true)
    (xga_InvalidWindow : PySem.W.findIn K (.ref k_InvalidWindow) "__getattribute__" = some (some (.builtin "BaseException.__getattribute__")))
    (xgg_InvalidWindow : PySem.W.findIn K (.ref k_InvalidWindow) "__getattr__" = some none)
    (xcl_InvalidWindow : PySem.W.findIn K (.ref k_InvalidWindow) "__class__" = some (some (.builtin "object.__class__")))
    (xhm_InvalidWindow : PySem.W.mroIn K k_InvalidWindow (.type "object") = some true)
    (xini_InvalidWindows : PySem.W.excInitIn K k_InvalidWindows (tailOf "ValueError") "ValueError.__new__" = true)
    (xov_InvalidWindows : PySem.W.excOver K k_InvalidWindows (tailOf "ValueError") = true)
    (xsa_InvalidWindows : PySem.W.findIn K (.ref k_InvalidWindows) "__setattr__" = some (some (.builtin "object.__setattr__")))
    (xhd_InvalidWindows : PySem.W.hasDictIn K k_InvalidWindows = true)
    (xexC_InvalidWindows : PySem.W.subIn K (.ref k_InvalidWindows) (.type "BaseException") = some true)
    (xtyC_InvalidWindows : PySem.W.typeIn K (.ref k_InvalidWindows) = some (.type "type"))
    (xkC_InvalidWindows : PySem.W.keepIn K (.ref k_InvalidWindows) = true)
    (xga_InvalidWindows : PySem.W.findIn K (.ref k_InvalidWindows) "__getattribute__" = some (some (.builtin "BaseException.__getattribute__")))
    (xgg_InvalidWindows : PySem.W.findIn K (.ref k_InvalidWindows) "__getattr__" = some none)
    (xcl_InvalidWindows : PySem.W.findIn K (.ref k_InvalidWindows) "__class__" = some (some (.builtin "object.__class__")))
    (xhm_InvalidWindows : PySem.W.mroIn K k_InvalidWindows (.type "object") = some true)
    (tI_InvalidVersion : PySem.W.typeIn K (.ref f0) = some (.type "function"))
    (tk_InvalidVersion_value : PySem.W.takerIn K k_InvalidVersion "value" = some none)
    (nf_InvalidVersion_value : PySem.W.findIn K (.ref k_InvalidVersion) "value" = some none)
    (tI_InvalidWindow : PySem.W.typeIn K (.ref f1) = some (.type "function"))
    (tk_InvalidWindow_value : PySem.W.takerIn K k_InvalidWindow "value" = some none)
    (nf_InvalidWindow_value : PySem.W.findIn K (.ref k_InvalidWindow) "value" = some none)
    (tI_InvalidWindows : PySem.W.typeIn K (.ref f2) = some (.type "function"))
    (tk_InvalidWindows_position : PySem.W.takerIn K k_InvalidWindows "position" = some none)
    (nf_InvalidWindows_position : PySem.W.findIn K (.ref k_InvalidWindows) "position" = some none) :
    ∃ fd : FuncData, (∀ (s : Shared) (v : Value), BindsTo s fd ⟨[v], []⟩ [("_law_script", v)]) ∧ ∀ base : Heap, K.In base → base.Ns mainGlobals mg → Fg l.prog w K mg base CX0 9 fa fd ["_law_script"] (sp_law K) := by
  have e := hfa.symm.trans (PySem.W.mg_of X G a24)
  cases e
  have F0 := fun_mk (st := s_InvalidVersionx_initx) l0 c0 k0
  have F1 := fun_mk (st := s_InvalidWindowx_initx) l1 c1 k1
  have F2 := fun_mk (st := s_InvalidWindowsx_initx) l2 c2 k2
  have F3 := fun_mk (st := s_is_integer) l3 c3 k3
  have F4 := fun_mk (st := s_is_version) l4 c4 k4
  have F5 := fun_mk (st := s_require_version) l5 c5 k5
  have F6 := fun_mk (st := s_is_window) l6 c6 k6
  have F7 := fun_mk (st := s_require_window) l7 c7 k7
  have F8 := fun_mk (st := s_require_windows) l8 c8 k8
  have F9 := fun_mk (st := s_reaches) l9 c9 k9
  have F10 := fun_mk (st := s_contains) l10 c10 k10
  have F11 := fun_mk (st := s_rises) l11 c11 k11
  have F12 := fun_mk (st := s_first_falling) l12 c12 k12
  have F13 := fun_mk (st := s_least_reaching) l13 c13 k13
  have F14 := fun_mk (st := s_l_rng) l14 c14 k14
  have F15 := fun_mk (st := s_l_draw) l15 c15 k15
  have F16 := fun_mk (st := s_l_choice) l16 c16 k16
  have F17 := fun_mk (st := s_l_windows) l17 c17 k17
  have F18 := fun_mk (st := s_l_top) l18 c18 k18
  have F19 := fun_mk (st := s_l_falls) l19 c19 k19
  have F20 := fun_mk (st := s_l_first) l20 c20 k20
  have F21 := fun_mk (st := s_l_replaced) l21 c21 k21
  have F22 := fun_mk (st := s_l_moved) l22 c22 k22
  have F23 := fun_mk (st := s_l_list_right) l23 c23 k23
  have F24 := fun_mk (st := s_law) l24 c24 k24
  have b0 := F0.binds (ps := ["self", "value"]) fun _ _ _ _ _ _ us hl => match us, hl with | [_, _], _ => rfl
  have b1 := F1.binds (ps := ["self", "value"]) fun _ _ _ _ _ _ us hl => match us, hl with | [_, _], _ => rfl
  have b2 := F2.binds (ps := ["self", "position"]) fun _ _ _ _ _ _ us hl => match us, hl with | [_, _], _ => rfl
  have b3 := F3.binds (ps := ["value"]) fun _ _ _ _ _ _ us hl => match us, hl with | [_], _ => rfl
  have b4 := F4.binds (ps := ["value"]) fun _ _ _ _ _ _ us hl => match us, hl with | [_], _ => rfl
  have b5 := F5.binds (ps := ["value"]) fun _ _ _ _ _ _ us hl => match us, hl with | [_], _ => rfl
  have b6 := F6.binds (ps := ["value"]) fun _ _ _ _ _ _ us hl => match us, hl with | [_], _ => rfl
  have b7 := F7.binds (ps := ["value"]) fun _ _ _ _ _ _ us hl => match us, hl with | [_], _ => rfl
  have b8 := F8.binds (ps := ["value"]) fun _ _ _ _ _ _ us hl => match us, hl with | [_], _ => rfl
  have b9 := F9.binds (ps := ["window", "version"]) fun _ _ _ _ _ _ us hl => match us, hl with | [_, _], _ => rfl
  have b10 := F10.binds (ps := ["window", "version"]) fun _ _ _ _ _ _ us hl => match us, hl with | [_, _], _ => rfl
  have b11 := F11.binds (ps := ["first", "second"]) fun _ _ _ _ _ _ us hl => match us, hl with | [_, _], _ => rfl
  have b12 := F12.binds (ps := ["windows"]) fun _ _ _ _ _ _ us hl => match us, hl with | [_], _ => rfl
  have b13 := F13.binds (ps := ["windows", "version"]) fun _ _ _ _ _ _ us hl => match us, hl with | [_, _], _ => rfl
  have b14 := F14.binds (ps := ["_law_script", "_law_k"]) fun _ _ _ _ _ _ us hl => match us, hl with | [_, _], _ => rfl
  have b15 := F15.binds (ps := ["_law_rng_here", "_law_many"]) fun _ _ _ _ _ _ us hl => match us, hl with | [_, _], _ => rfl
  have b16 := F16.binds (ps := ["_law_rng_here", "_law_options"]) fun _ _ _ _ _ _ us hl => match us, hl with | [_, _], _ => rfl
  have b17 := F17.binds (ps := ["_law_rng_here", "_law_many", "_law_loose"]) fun _ _ _ _ _ _ us hl => match us, hl with | [_, _, _], _ => rfl
  have b18 := F18.binds (ps := ["_law_one"]) fun _ _ _ _ _ _ us hl => match us, hl with | [_], _ => rfl
  have b19 := F19.binds (ps := ["_law_one", "_law_other"]) fun _ _ _ _ _ _ us hl => match us, hl with | [_, _], _ => rfl
  have b20 := F20.binds (ps := ["_law_flags"]) fun _ _ _ _ _ _ us hl => match us, hl with | [_], _ => rfl
  have b21 := F21.binds (ps := ["_law_rng_here", "_law_some"]) fun _ _ _ _ _ _ us hl => match us, hl with | [_, _], _ => rfl
  have b22 := F22.binds (ps := ["_law_some", "_law_far"]) fun _ _ _ _ _ _ us hl => match us, hl with | [_, _], _ => rfl
  have b23 := F23.binds (ps := ["_law_rng_here", "_law_some"]) fun _ _ _ _ _ _ us hl => match us, hl with | [_, _], _ => rfl
  have b24 := F24.binds (ps := ["_law_script"]) fun _ _ _ _ _ _ us hl => match us, hl with | [_], _ => rfl
  have kb_contains_version_window := F10.kb0 (ps := ["window", "version"]) (ks := ["version", "window"]) (pm := [1, 0]) fun _ _ _ _ _ _ us hl => match us, hl with | [_, _], _ => rfl
  have kb_first_falling_windows := F12.kb0 (ps := ["windows"]) (ks := ["windows"]) (pm := [0]) fun _ _ _ _ _ _ us hl => match us, hl with | [_], _ => rfl
  have kb_least_reaching_version_windows := F13.kb0 (ps := ["windows", "version"]) (ks := ["version", "windows"]) (pm := [1, 0]) fun _ _ _ _ _ _ us hl => match us, hl with | [_, _], _ => rfl
  have kb_rises_first_second := F11.kb0 (ps := ["first", "second"]) (ks := ["first", "second"]) (pm := [0, 1]) fun _ _ _ _ _ _ us hl => match us, hl with | [_, _], _ => rfl
  have T : Txt K mg ⟨f0, _, f1, _, f2, _, f3, _, f4, _, f5, _, f6, _, f7, _, f8, _, f9, _, f10, _, f11, _, f12, _, f13, _, f14, _, f15, _, f16, _, f17, _, f18, _, f19, _, f20, _, f21, _, f22, _, f23, _, fa, _, k_GroupError, k_InvalidVersion, k_InvalidWindow, k_InvalidWindows⟩ := {
    F_InvalidVersionx_initx := F0,
    b_InvalidVersionx_initx := b0,
    F_InvalidWindowx_initx := F1,
    b_InvalidWindowx_initx := b1,
    F_InvalidWindowsx_initx := F2,
    b_InvalidWindowsx_initx := b2,
    F_is_integer := F3,
    g_is_integer := PySem.W.mg_of X G a3,
    b_is_integer := b3,
    F_is_version := F4,
    g_is_version := PySem.W.mg_of X G a4,
    b_is_version := b4,
    F_require_version := F5,
    g_require_version := PySem.W.mg_of X G a5,
    b_require_version := b5,
    F_is_window := F6,
    g_is_window := PySem.W.mg_of X G a6,
    b_is_window := b6,
    F_require_window := F7,
    g_require_window := PySem.W.mg_of X G a7,
    b_require_window := b7,
    F_require_windows := F8,
    g_require_windows := PySem.W.mg_of X G a8,
    b_require_windows := b8,
    F_reaches := F9,
    g_reaches := PySem.W.mg_of X G a9,
    b_reaches := b9,
    F_contains := F10,
    g_contains := PySem.W.mg_of X G a10,
    b_contains := b10,
    F_rises := F11,
    g_rises := PySem.W.mg_of X G a11,
    b_rises := b11,
    F_first_falling := F12,
    g_first_falling := PySem.W.mg_of X G a12,
    b_first_falling := b12,
    F_least_reaching := F13,
    g_least_reaching := PySem.W.mg_of X G a13,
    b_least_reaching := b13,
    F_l_rng := F14,
    g_l_rng := PySem.W.mg_of X G a14,
    b_l_rng := b14,
    F_l_draw := F15,
    g_l_draw := PySem.W.mg_of X G a15,
    b_l_draw := b15,
    F_l_choice := F16,
    g_l_choice := PySem.W.mg_of X G a16,
    b_l_choice := b16,
    F_l_windows := F17,
    g_l_windows := PySem.W.mg_of X G a17,
    b_l_windows := b17,
    F_l_top := F18,
    g_l_top := PySem.W.mg_of X G a18,
    b_l_top := b18,
    F_l_falls := F19,
    g_l_falls := PySem.W.mg_of X G a19,
    b_l_falls := b19,
    F_l_first := F20,
    g_l_first := PySem.W.mg_of X G a20,
    b_l_first := b20,
    F_l_replaced := F21,
    g_l_replaced := PySem.W.mg_of X G a21,
    b_l_replaced := b21,
    F_l_moved := F22,
    g_l_moved := PySem.W.mg_of X G a22,
    b_l_moved := b22,
    F_l_list_right := F23,
    g_l_list_right := PySem.W.mg_of X G a23,
    b_l_list_right := b23,
    F_law := F24,
    g_law := PySem.W.mg_of X G a24,
    b_law := b24,
    kb_contains_version_window := kb_contains_version_window,
    kb_first_falling_windows := kb_first_falling_windows,
    kb_least_reaching_version_windows := kb_least_reaching_version_windows,
    kb_rises_first_second := kb_rises_first_second,
    m_abs := PySem.W.mg_none_of X G z_abs,
    m_bool := PySem.W.mg_none_of X G z_bool,
    m_divmod := PySem.W.mg_none_of X G z_divmod,
    m_enumerate := PySem.W.mg_none_of X G z_enumerate,
    m_int := PySem.W.mg_none_of X G z_int,
    m_isinstance := PySem.W.mg_none_of X G z_isinstance,
    m_len := PySem.W.mg_none_of X G z_len,
    m_list := PySem.W.mg_none_of X G z_list,
    m_max := PySem.W.mg_none_of X G z_max,
    m_min := PySem.W.mg_none_of X G z_min,
    m_range := PySem.W.mg_none_of X G z_range,
    m_repr := PySem.W.mg_none_of X G z_repr,
    m_tuple := PySem.W.mg_none_of X G z_tuple,
    m_zip := PySem.W.mg_none_of X G z_zip,
    gX_GroupError := PySem.W.mg_of X G qX_GroupError,
    gX_InvalidVersion := PySem.W.mg_of X G qX_InvalidVersion,
    gX_InvalidWindow := PySem.W.mg_of X G qX_InvalidWindow,
    gX_InvalidWindows := PySem.W.mg_of X G qX_InvalidWindows,
    cg := ⟨cg1, cg2⟩,
    EX_GroupError := ⟨⟨baseV, xini_GroupError, xov_GroupError, xsa_GroupError, xhd_GroupError, xexC_GroupError, xtyC_GroupError, xkC_GroupError⟩, xga_GroupError, xgg_GroupError, xcl_GroupError, xhm_GroupError⟩,
    EX_InvalidVersion := ⟨⟨baseV, xini_InvalidVersion, xov_InvalidVersion, xsa_InvalidVersion, xhd_InvalidVersion, xexC_InvalidVersion, xtyC_InvalidVersion, xkC_InvalidVersion⟩, xga_InvalidVersion, xgg_InvalidVersion, xcl_InvalidVersion, xhm_InvalidVersion⟩,
    EX_InvalidWindow := ⟨⟨baseV, xini_InvalidWindow, xov_InvalidWindow, xsa_InvalidWindow, xhd_InvalidWindow, xexC_InvalidWindow, xtyC_InvalidWindow, xkC_InvalidWindow⟩, xga_InvalidWindow, xgg_InvalidWindow, xcl_InvalidWindow, xhm_InvalidWindow⟩,
    EX_InvalidWindows := ⟨⟨baseV, xini_InvalidWindows, xov_InvalidWindows, xsa_InvalidWindows, xhd_InvalidWindows, xexC_InvalidWindows, xtyC_InvalidWindows, xkC_InvalidWindows⟩, xga_InvalidWindows, xgg_InvalidWindows, xcl_InvalidWindows, xhm_InvalidWindows⟩,
    IB_GroupError := ⟨xsp_GroupError, xrd_GroupError, xfc_GroupError⟩,
    iC_InvalidVersion := a0,
    tI_InvalidVersion := tI_InvalidVersion,
    tk_InvalidVersion_value := tk_InvalidVersion_value,
    nf_InvalidVersion_value := nf_InvalidVersion_value,
    iC_InvalidWindow := a1,
    tI_InvalidWindow := tI_InvalidWindow,
    tk_InvalidWindow_value := tk_InvalidWindow_value,
    nf_InvalidWindow_value := nf_InvalidWindow_value,
    iC_InvalidWindows := a2,
    tI_InvalidWindows := tI_InvalidWindows,
    tk_InvalidWindows_position := tk_InvalidWindows_position,
    nf_InvalidWindows_position := nf_InvalidWindows_position }
  exact ⟨_, fun s v => .of_eq rfl, fun base _ _ => ok_law T⟩
end
end KX
open PySem PySem.W PyProof.Rows
set_option maxHeartbeats 0 in
theorem PySem.Challenge.cw_groupsteps_k13_whole_rising_lists_holds : PySem.Challenge.rw_groupsteps_k13_whole_rising_lists.Holds := by
  w_on; o_law; k_head; (case hw => w_witness2)
  k_fill
  refine KX.walkG (l := PySem.Challenge.rw_groupsteps_k13_whole_rising_lists) (n := 63) (k := 9) (x := "_law_script") (CX := fun _ => L2.CX0) (sp := fun w => KX.sp_law _) rfl (by decide) rfl ⟨rfl, by decide, by decide⟩ (fun w h Y => PySem.W.kIn_of Y) ?F (fun _ _ a ns hl hb hS => KX.sp_law_of hl hb hS) (fun _ _ _ _ _ h => h)
  case F =>
    intro w mg fa h inK G hmg
    refine' KX.all_mk inK G hmg ?qX_GroupError ?qX_InvalidVersion ?qX_InvalidWindow ?qX_InvalidWindows ?a0 ?l0 ?c0 ?k0 ?a1 ?l1 ?c1 ?k1 ?a2 ?l2 ?c2 ?k2 ?a3 ?l3 ?c3 ?k3 ?a4 ?l4 ?c4 ?k4 ?a5 ?l5 ?c5 ?k5 ?a6 ?l6 ?c6 ?k6 ?a7 ?l7 ?c7 ?k7 ?a8 ?l8 ?c8 ?k8 ?a9 ?l9 ?c9 ?k9 ?a10 ?l10 ?c10 ?k10 ?a11 ?l11 ?c11 ?k11 ?a12 ?l12 ?c12 ?k12 ?a13 ?l13 ?c13 ?k13 ?a14 ?l14 ?c14 ?k14 ?a15 ?l15 ?c15 ?k15 ?a16 ?l16 ?c16 ?k16 ?a17 ?l17 ?c17 ?k17 ?a18 ?l18 ?c18 ?k18 ?a19 ?l19 ?c19 ?k19 ?a20 ?l20 ?c20 ?k20 ?a21 ?l21 ?c21 ?k21 ?a22 ?l22 ?c22 ?k22 ?a23 ?l23 ?c23 ?k23 ?a24 ?l24 ?c24 ?k24 ?z_abs ?z_bool ?z_divmod ?z_enumerate ?z_int ?z_isinstance ?z_len ?z_list ?z_max ?z_min ?z_range ?z_repr ?z_tuple ?z_zip ?cg1 ?cg2 ?xini_GroupError ?xov_GroupError ?xsa_GroupError ?xhd_GroupError ?xexC_GroupError ?xtyC_GroupError ?xkC_GroupError ?xga_GroupError ?xgg_GroupError ?xcl_GroupError ?xhm_GroupError ?xsp_GroupError ?xrd_GroupError ?xfc_GroupError ?xini_InvalidVersion ?xov_InvalidVersion ?xsa_InvalidVersion ?xhd_InvalidVersion ?xexC_InvalidVersion ?xtyC_InvalidVersion ?xkC_InvalidVersion ?xga_InvalidVersion ?xgg_InvalidVersion ?xcl_InvalidVersion ?xhm_InvalidVersion ?xini_InvalidWindow ?xov_InvalidWindow ?xsa_InvalidWindow ?xhd_InvalidWindow ?xexC_InvalidWindow ?xtyC_InvalidWindow ?xkC_InvalidWindow ?xga_InvalidWindow ?xgg_InvalidWindow ?xcl_InvalidWindow ?xhm_InvalidWindow ?xini_InvalidWindows ?xov_InvalidWindows ?xsa_InvalidWindows ?xhd_InvalidWindows ?xexC_InvalidWindows ?xtyC_InvalidWindows ?xkC_InvalidWindows ?xga_InvalidWindows ?xgg_InvalidWindows ?xcl_InvalidWindows ?xhm_InvalidWindows ?tI_InvalidVersion ?tk_InvalidVersion_value ?nf_InvalidVersion_value ?tI_InvalidWindow ?tk_InvalidWindow_value ?nf_InvalidWindow_value ?tI_InvalidWindows ?tk_InvalidWindows_position ?nf_InvalidWindows_position
    (case qX_GroupError => k_is)
    (case qX_InvalidVersion => k_is)
    (case qX_InvalidWindow => k_is)
    (case qX_InvalidWindows => k_is)
    (case a0 => k_is)
    (case l0 => k_is)
    (case c0 => k_is)
    (case k0 => k_is)
    (case a1 => k_is)
    (case l1 => k_is)
    (case c1 => k_is)
    (case k1 => k_is)
    (case a2 => k_is)
    (case l2 => k_is)
    (case c2 => k_is)
    (case k2 => k_is)
    (case a3 => k_is)
    (case l3 => k_is)
    (case c3 => k_is)
    (case k3 => k_is)
    (case a4 => k_is)
    (case l4 => k_is)
    (case c4 => k_is)
    (case k4 => k_is)
    (case a5 => k_is)
    (case l5 => k_is)
    (case c5 => k_is)
    (case k5 => k_is)
    (case a6 => k_is)
    (case l6 => k_is)
    (case c6 => k_is)
    (case k6 => k_is)
    (case a7 => k_is)
    (case l7 => k_is)
    (case c7 => k_is)
    (case k7 => k_is)
    (case a8 => k_is)
    (case l8 => k_is)
    (case c8 => k_is)
    (case k8 => k_is)
    (case a9 => k_is)
    (case l9 => k_is)
    (case c9 => k_is)
    (case k9 => k_is)
    (case a10 => k_is)
    (case l10 => k_is)
    (case c10 => k_is)
    (case k10 => k_is)
    (case a11 => k_is)
    (case l11 => k_is)
    (case c11 => k_is)
    (case k11 => k_is)
    (case a12 => k_is)
    (case l12 => k_is)
    (case c12 => k_is)
    (case k12 => k_is)
    (case a13 => k_is)
    (case l13 => k_is)
    (case c13 => k_is)
    (case k13 => k_is)
    (case a14 => k_is)
    (case l14 => k_is)
    (case c14 => k_is)
    (case k14 => k_is)
    (case a15 => k_is)
    (case l15 => k_is)
    (case c15 => k_is)
    (case k15 => k_is)
    (case a16 => k_is)
    (case l16 => k_is)
    (case c16 => k_is)
    (case k16 => k_is)
    (case a17 => k_is)
    (case l17 => k_is)
    (case c17 => k_is)
    (case k17 => k_is)
    (case a18 => k_is)
    (case l18 => k_is)
    (case c18 => k_is)
    (case k18 => k_is)
    (case a19 => k_is)
    (case l19 => k_is)
    (case c19 => k_is)
    (case k19 => k_is)
    (case a20 => k_is)
    (case l20 => k_is)
    (case c20 => k_is)
    (case k20 => k_is)
    (case a21 => k_is)
    (case l21 => k_is)
    (case c21 => k_is)
    (case k21 => k_is)
    (case a22 => k_is)
    (case l22 => k_is)
    (case c22 => k_is)
    (case k22 => k_is)
    (case a23 => k_is)
    (case l23 => k_is)
    (case c23 => k_is)
    (case k23 => k_is)
    (case a24 => k_is)
    (case l24 => k_is)
    (case c24 => k_is)
    (case k24 => k_is)
    (case z_abs => k_is)
    (case z_bool => k_is)
    (case z_divmod => k_is)
    (case z_enumerate => k_is)
    (case z_int => k_is)
    (case z_isinstance => k_is)
    (case z_len => k_is)
    (case z_list => k_is)
    (case z_max => k_is)
    (case z_min => k_is)
    (case z_range => k_is)
    (case z_repr => k_is)
    (case z_tuple => k_is)
    (case z_zip => k_is)
    (case cg1 => k_is)
    (case cg2 => k_is)
    (case xini_GroupError => kx_is)
    (case xov_GroupError => kx_is)
    (case xsa_GroupError => k_is)
    (case xhd_GroupError => k_is)
    (case xexC_GroupError => k_is)
    (case xtyC_GroupError => k_is)
    (case xkC_GroupError => k_is)
    (case xga_GroupError => k_is)
    (case xgg_GroupError => k_is)
    (case xcl_GroupError => k_is)
    (case xhm_GroupError => k_is)
    (case xsp_GroupError => k_is)
    (case xrd_GroupError => k_is)
    (case xfc_GroupError => k_is)
    (case xini_InvalidVersion => kx_is)
    (case xov_InvalidVersion => kx_is)
    (case xsa_InvalidVersion => k_is)
    (case xhd_InvalidVersion => k_is)
    (case xexC_InvalidVersion => k_is)
    (case xtyC_InvalidVersion => k_is)
    (case xkC_InvalidVersion => k_is)
    (case xga_InvalidVersion => k_is)
    (case xgg_InvalidVersion => k_is)
    (case xcl_InvalidVersion => k_is)
    (case xhm_InvalidVersion => k_is)
    (case xini_InvalidWindow => kx_is)
    (case xov_InvalidWindow => kx_is)
    (case xsa_InvalidWindow => k_is)
    (case xhd_InvalidWindow => k_is)
    (case xexC_InvalidWindow => k_is)
    (case xtyC_InvalidWindow => k_is)
    (case xkC_InvalidWindow => k_is)
    (case xga_InvalidWindow => k_is)
    (case xgg_InvalidWindow => k_is)
    (case xcl_InvalidWindow => k_is)
    (case xhm_InvalidWindow => k_is)
    (case xini_InvalidWindows => kx_is)
    (case xov_InvalidWindows => kx_is)
    (case xsa_InvalidWindows => k_is)
    (case xhd_InvalidWindows => k_is)
    (case xexC_InvalidWindows => k_is)
    (case xtyC_InvalidWindows => k_is)
    (case xkC_InvalidWindows => k_is)
    (case xga_InvalidWindows => k_is)
    (case xgg_InvalidWindows => k_is)
    (case xcl_InvalidWindows => k_is)
    (case xhm_InvalidWindows => k_is)
    (case tI_InvalidVersion => k_is)
    (case tk_InvalidVersion_value => k_is)
    (case nf_InvalidVersion_value => k_is)
    (case tI_InvalidWindow => k_is)
    (case tk_InvalidWindow_value => k_is)
    (case nf_InvalidWindow_value => k_is)
    (case tI_InvalidWindows => k_is)
    (case tk_InvalidWindows_position => k_is)
    (case nf_InvalidWindows_position => k_is)
