import PyProof.Rows.All
import Wide.All
import OpenK.AllK
import Wide.FinOn
import HandS.ForMost
import HandS.IsInst
import HandS.WideBits
import HandS.Wide
import HandS.Flow
import HandS.RaiseMore
import HandS.EndBits
import PySem.Challenge.RW_groupsteps_k11_names_and_versions
set_option Elab.async false
set_option linter.all false
set_option maxRecDepth 100000
set_option maxHeartbeats 4000000
namespace KX
open PySem PySem.Spec PyProof.Rows L2

/-! ### calls where the frames' guards are told (repr of containers asks for them) -/
structure Rg (k : Nat) (A : Around) : Prop where
  room : Room k A
  gd : A.guards = some []
theorem Rg.mono {j k : Nat} {A : Around} (r : Rg k A) (h : j ≤ k) : Rg j A := ⟨r.room.mono h, r.gd⟩
theorem Rg.deeper {k : Nat} {A : Around} (r : Rg (k + 1) A) (env : Env) : Rg k (A.deeper env) := ⟨r.room.deeper env, r.gd⟩

structure Fg (P : Program) (w : World) (K : PySem.W.Frag) (mg : Str → Option Value) (base : Heap) (CX : CXT) (k : Nat) (f : Addr) (fd : FuncData) (ps : List Str) (sp : Sp) : Prop where
  len : ∀ vs H Q E, sp vs H Q E → vs.length = ps.length
  run : ∀ (A : Around) (outer : List Env) (s : Shared) (H : Hp) (args : Args) (us : List Value) (vs : List V) (Q : VK) (E : XK), Rg k A → Env0 P w K mg base A outer s H → BindsTo s fd args (ps.zip us) → Vals vs us → sp vs H Q E →
    codeAny (model P w) A (.call (.ref f) args) (CR CX outer P w H s Q E) s
theorem Fg.mono {P : Program} {w : World} {K : PySem.W.Frag} {mg : Str → Option Value} {base : Heap} {CX : CXT} {j k : Nat} {f : Addr} {fd : FuncData} {ps : List Str} {sp : Sp} (F : Fg P w K mg base CX j f fd ps sp) (h : j ≤ k) :
    Fg P w K mg base CX k f fd ps sp := ⟨F.len, fun A outer s H args us vs Q E hr => F.run A outer s H args us vs Q E (hr.mono h)⟩

section
variable {X : Cx} {CX : CXT} {k : Nat} {f C : Addr} {fd : FuncData} {ps : List Str} {sp : Sp} {dvs : List V} {ds : List Value} {E : XK} {x m : Str} {p pos apos : Pos} {e o : Expr} {es : List Expr} {ta : TE} {t : TA}
theorem run_fn {pins : List (Addr × Obj)} {σ : L2.St} {H : Hp} {s : Shared} {Q : VK} {us : List Value} {vs : List V} (F : Fg X.prog X.w X.K X.mg X.base CX k f fd ps sp) (hr : Rg k X.A) (hb : Binds X.K fd ps ds) (hd : Vals dvs ds) (hx : Passes CX X E)
    (I : Inv X pins σ H s) (r : Vals vs us) (h : sp (vs ++ dvs) H Q E) : wpAny (model X.prog X.w) X.A (call (.ref f) us) (EP X pins σ Q) X.xe s := by
  have r2 : Vals (vs ++ dvs) (us ++ ds) := r.append hd
  have hl : (us ++ ds).length = ps.length := by rw [← r2.length]; exact F.len _ _ _ _ h
  refine wpAny_call (codeAny_mono (F.run X.A X.stack s H ⟨us, []⟩ (us ++ ds) (vs ++ dvs) Q E hr I.env0 (hb s us I.kIn hl) r2 h) fun r s' hq => ?_)
  cases r with
  | error e => exact hx pins σ H s e s' I hq
  | ok fl =>
    cases fl with
    | ret u => exact I.after hq
    | next => exact False.elim hq
    | brk => exact False.elim hq
    | cont => exact False.elim hq
theorem pe_call (F : Fg X.prog X.w X.K X.mg X.base CX k f fd ps sp) (hr : Rg k X.A) (hg : Gl X x) (hm : X.mg x = some (.ref f)) (hk : PySem.W.keepIn X.K (.ref f) = true) (hb : Binds X.K fd ps ds) (hd : Vals dvs ds) (hx : Passes CX X E)
    (ha : PA X (e :: es) t) (hdb : (x == ("__debug__" : Str)) = false := by decide) (he : starEach (e :: es) X.env = (false, eval e X.env) :: starEach es X.env := by rfl) (hpl : (backTo pos (starEach es X.env)).any (·.1) = false := by rfl) :
    PE X (.Call (.Name x p) (e :: es) [] pos) (tCall sp dvs E t) := by
  refine ⟨fun pins s σ H Q I h => ?_⟩
  refine wpAny_Call_Name_kw (ld_glob I hg hm ?_ hdb)
  refine PySem.W.callWith_K (h₀ := X.base) I.ok.mod.kin hk (thn (ha.run pos pins s σ H _ I h) fun us s1 ⟨vs, H1, I1, r, q⟩ => ⟨I1.kIn, ?_⟩) he hpl
  exact run_fn F hr hb hd hx I1 r q
theorem pe_call0 (F : Fg X.prog X.w X.K X.mg X.base CX k f fd ps sp) (hr : Rg k X.A) (hg : Gl X x) (hm : X.mg x = some (.ref f)) (hk : PySem.W.keepIn X.K (.ref f) = true) (hb : Binds X.K fd ps ds) (hd : Vals dvs ds) (hx : Passes CX X E)
    (hdb : (x == ("__debug__" : Str)) = false := by decide) : PE X (.Call (.Name x p) [] [] pos) (tCall sp dvs E tNil) := by
  refine ⟨fun pins s σ H Q I h => ?_⟩
  refine wpAny_Call_Name_kw (ld_glob I hg hm ?_ hdb)
  exact PySem.W.callWith_K0 I.kIn hk (run_fn (us := []) F hr hb hd hx I .nil h)
end

theorem fg_of {CX : CXT} {P : Program} {w : World} {K : PySem.W.Frag} {mg : Str → Option Value} {base : Heap} {k : Nat} {f : Addr} {name qual : Str} {params : Arguments} {body : List Stmt} {scope : Scope} {dV kV doc pm cdv ct oc : Value} {an od : Option Addr}
    {osl : Array (Option Value)} {N ps : List Str} {sp : Sp} (lk : K.lookup f = some ⟨oc, od, .func (PySem.W.fnOf name qual params body scope dV kV doc pm an cdv ct), osl⟩) (hcd : PySem.W.codeIn K cdv qual = true) (S : FnScope N ps scope)
    (len : ∀ vs H Q E, sp vs H Q E → vs.length = ps.length)
    (hbody : ∀ (A : Around) (outer : List Env) (s : Shared) (H : Hp) (vs : List V) (Q : VK) (E : XK), Rg k (A.deeper (envOfC qual scope s.heap.objs.size f cdv)) → sp vs H Q E →
      ∃ t, PSs (cxOf CX P w K mg base N qual scope f cdv A outer s H E) body t ∧ t { nx := fun _ H' => Q .non H', rt := Q } (start N vs) H) :
    Fg P w K mg base CX (k + 1) f (PySem.W.fnOf name qual params body scope dV kV doc pm an cdv ct) ps sp := by
  refine ⟨len, fun A outer s H args us vs Q E hrg e0 hb r hsp => ?_⟩
  have hr := hrg.room
  have hl := len _ _ _ _ hsp
  have KX : K.In s.heap := e0.mod.kin.keeps fun b o e => (e0.bs b o e).1
  have lim : s.heap.NoLimit := e0.mod.nolimit.keeps fun b o e => (e0.bs b o e).1
  have hkind : ∀ y ∈ ps.zip us, scope.names.lookup y.1 = some .local ∨ (scope.names.lookup y.1 = some .cell ∧ ((cellsFrom (s.heap.objs.size + 1) scope.names []).lookup y.1).isSome = true) := fun ⟨n, v⟩ hy => by
    rcases S.par n (List.of_mem_zip hy).1 with q | q
    · exact .inl q
    · exact .inr ⟨q, PySem.W.cellsFrom_some _ _ _ (.inl q)⟩
  refine codeAny_call_function hr.depth (KX _ _ lk) rfl S.co S.gen rfl (PySem.W.codeRec_of KX hcd) (hb _ _ _ _ ?_)
  refine wpAny_newFunctionEnv_cells S.kind hkind fun env he s1 x => ?_
  subst he
  refine ⟨lim.keeps x.toInCall.keep, codeAny_func ?_⟩
  obtain ⟨t, ht, hq⟩ := hbody A outer s H vs Q E (hrg.deeper _) hsp
  have I : Inv (cxOf CX P w K mg base N qual scope f cdv A outer s H E) [] (start N vs) H s1 := inv_start S hr.hd e0 hl r x
  refine wpAny_mono (ht.run [] s1 (start N vs) H _ I hq) (fun fl s' hs => ?_) fun e s' hs => hs
  have fin : ∀ {σ' : L2.St} {H' : Hp} {v : V} {u : Value}, Inv (cxOf CX P w K mg base N qual scope f cdv A outer s H E) [] σ' H' s' → RelV v u → Q v H' → CE outer P w H s Q u s' :=
    fun {σ' H' v u} J rv q => ⟨v, H', J.os, J.bare, J.base, J.hok, rv, q⟩
  cases fl with
  | ret u =>
    obtain ⟨v, σ', H', J, rv, q⟩ := hs
    exact fin J rv q
  | next =>
    obtain ⟨σ', H', J, q⟩ := hs
    exact fin (v := V.non) (u := Value.none) J rfl q
  | brk =>
    obtain ⟨_, _, _, q⟩ := hs
    exact False.elim q
  | cont =>
    obtain ⟨_, _, _, q⟩ := hs
    exact False.elim q
section
variable {P : Program} {w : World} {K : PySem.W.Frag} {mg : Str → Option Value} {base : Heap}
theorem ok_g {x qual : Str} {st : Stmt} {f : Addr} {fd : FuncData} {N ps : List Str} {k : Nat} {sp : Sp} (F : Fun K x qual st f fd) (S : FnScope N ps (defScope st)) (len : ∀ vs H Q E, sp vs H Q E → vs.length = ps.length)
    (hbody : ∀ (cdv : Value) (A : Around) (outer : List Env) (s : Shared) (H : Hp) (vs : List V) (Q : VK) (E : XK), Rg k (A.deeper (envOfC qual (defScope st) s.heap.objs.size f cdv)) → sp vs H Q E →
      ∃ t, PSs (cxOf CX0 P w K mg base N qual (defScope st) f cdv A outer s H E).nox (defBody st) t ∧ t { nx := fun _ H' => Q .non H', rt := Q } (start N vs) H) : Fg P w K mg base CX0 (k + 1) f fd ps sp := by
  obtain ⟨oc, od, kV, doc, pm, an, cdv, ct, osl, rfl, lk, hcd⟩ := F.ex
  refine fg_of lk hcd S len fun A outer s H vs Q E hr hsp => ?_
  obtain ⟨t, h, q⟩ := hbody cdv A outer s H vs Q E hr hsp
  exact ⟨t, h.nox, q⟩
theorem ok_gX {x qual : Str} {st : Stmt} {f : Addr} {fd : FuncData} {N ps : List Str} {k : Nat} {sp : Sp} {CX : CXT} (F : Fun K x qual st f fd) (S : FnScope N ps (defScope st)) (len : ∀ vs H Q E, sp vs H Q E → vs.length = ps.length)
    (hbody : ∀ (cdv : Value) (A : Around) (outer : List Env) (s : Shared) (H : Hp) (vs : List V) (Q : VK) (E : XK), Rg k (A.deeper (envOfC qual (defScope st) s.heap.objs.size f cdv)) → sp vs H Q E →
      ∃ t, PSs (cxOf CX P w K mg base N qual (defScope st) f cdv A outer s H E) (defBody st) t ∧ t { nx := fun _ H' => Q .non H', rt := Q } (start N vs) H) : Fg P w K mg base CX (k + 1) f fd ps sp := by
  obtain ⟨oc, od, kV, doc, pm, an, cdv, ct, osl, rfl, lk, hcd⟩ := F.ex
  exact fg_of lk hcd S len fun A outer s H vs Q E hr hsp => hbody cdv A outer s H vs Q E hr hsp
end

/-! ### data at any depth, dicts with int and text keys among them -/
def keyD : Key → PyData
  | .inl i => .int i
  | .inr x => .str x
mutual
inductive DaF (b : Bool) (K : PySem.W.Frag) (H : Hp) : V → PyData → Prop
  | non : DaF b K H .non .none
  | bl (c : Bool) : DaF b K H (.bl c) (.bool c)
  | int (i : Int) : DaF b K H (.int i) (.int i)
  | str (x : Str) : DaF b K H (.str x) (.str x)
  | lst {a : Addr} {xs : List V} {ds : List PyData} : SqL K H a xs → (b = true → a ≠ sysModules) → DaAllF b K H xs ds → DaF b K H (.ref a) (.list ds)
  | tup {a : Addr} {xs : List V} {ds : List PyData} : SqT K H a xs → DaAllF b K H xs ds → DaF b K H (.ref a) (.tuple ds)
  | dic {a : Addr} {kvs : List (Key × V)} {dk : List (PyData × PyData)} : Rd H a (.dK kvs) → DaKvF b K H kvs dk → DaF b K H (.ref a) (.dict dk)
inductive DaAllF (b : Bool) (K : PySem.W.Frag) (H : Hp) : List V → List PyData → Prop
  | nil : DaAllF b K H [] []
  | cons {v : V} {vs : List V} {d : PyData} {ds : List PyData} : DaF b K H v d → DaAllF b K H vs ds → DaAllF b K H (v :: vs) (d :: ds)
inductive DaKvF (b : Bool) (K : PySem.W.Frag) (H : Hp) : List (Key × V) → List (PyData × PyData) → Prop
  | nil : DaKvF b K H [] []
  | cons {k : Key} {v : V} {kvs : List (Key × V)} {d : PyData} {ds : List (PyData × PyData)} : DaF b K H v d → DaKvF b K H kvs ds → DaKvF b K H ((k, v) :: kvs) ((keyD k, d) :: ds)
end
theorem Rd.same {H H' : Hp} {a : Addr} {u : HO} (e : Same H H') (r : Rd H a u) : Rd H' a u := by
  rcases r with r | ⟨o, r⟩
  · exact .inl (e _ _ r)
  · exact .inr ⟨o, e _ _ r⟩
theorem same_seqT {K : PySem.W.Frag} {H H' : Hp} {a : Addr} {xs : List V} (e : Same H H') (h : SqT K H a xs) : SqT K H' a xs := by
  rcases h with h | h
  · exact .inl (Rd.same e h)
  · exact .inr h
mutual
theorem DaF.same {b : Bool} {K : PySem.W.Frag} {H H' : Hp} (e : Same H H') : ∀ {v : V} {d : PyData}, DaF b K H v d → DaF b K H' v d
  | _, _, .non => .non
  | _, _, .bl b => .bl b
  | _, _, .int i => .int i
  | _, _, .str x => .str x
  | _, _, .lst h n a => .lst (e.seq h) n (DaAllF.same e a)
  | _, _, .tup h a => .tup (same_seqT e h) (DaAllF.same e a)
  | _, _, .dic h a => .dic (Rd.same e h) (DaKvF.same e a)
theorem DaAllF.same {b : Bool} {K : PySem.W.Frag} {H H' : Hp} (e : Same H H') : ∀ {vs : List V} {ds : List PyData}, DaAllF b K H vs ds → DaAllF b K H' vs ds
  | _, _, .nil => .nil
  | _, _, .cons a r => .cons (DaF.same e a) (DaAllF.same e r)
theorem DaKvF.same {b : Bool} {K : PySem.W.Frag} {H H' : Hp} (e : Same H H') : ∀ {kvs : List (Key × V)} {ds : List (PyData × PyData)}, DaKvF b K H kvs ds → DaKvF b K H' kvs ds
  | _, _, .nil => .nil
  | _, _, .cons a r => .cons (DaF.same e a) (DaKvF.same e r)
end
/-- the records of a dict read -/
theorem kv_reads {P : Program} {w : World} {h : Heap} {vs : List (Key × Value)} : ∀ {es : List DictEntry} {kvs : List (Key × V)} {dk : List (PyData × PyData)}, Pairs (mixKind P w) es vs → (dk.map (·.1)) = vs.map (fun p => keyD p.1) → ∃ as, ReadsAll h (es.map (·.key)) (dk.map (·.1)) as ∧ as = [] := by
  intro es kvs dk hp he
  rw [he]
  clear he
  induction hp with
  | nil => exact ⟨_, ReadsAll.nil, rfl⟩
  | @cons e kv es kvs hk hv hr ih =>
    obtain ⟨as, q, rfl⟩ := ih
    have hk' : keyIs kv.1 e.key = true := hk
    rcases keyIs_shape hk' with ⟨i, t, e1, e2⟩ | ⟨x, t, e1, e2⟩
    · refine ⟨[] ++ [], ReadsAll.cons (d := keyD kv.1) (v := e.key) (as := []) ?_ q, rfl⟩
      rw [e1, e2]; exact Reads.int i t
    · refine ⟨[] ++ [], ReadsAll.cons (d := keyD kv.1) (v := e.key) (as := []) ?_ q, rfl⟩
      rw [e1, e2]; exact Reads.str x t
theorem dakv_keys {b : Bool} {K : PySem.W.Frag} {H : Hp} : ∀ {kvs : List (Key × V)} {dk : List (PyData × PyData)}, DaKvF b K H kvs dk → dk.map (·.1) = kvs.map (fun p => keyD p.1)
  | _, _, .nil => rfl
  | _, _, .cons a r => by rw [List.map_cons, List.map_cons, dakv_keys r]
theorem dakv_vals {b : Bool} {K : PySem.W.Frag} {H : Hp} : ∀ {kvs : List (Key × V)} {dk : List (PyData × PyData)}, DaKvF b K H kvs dk → DaAllF b K H (kvs.map (·.2)) (dk.map (·.2))
  | _, _, .nil => .nil
  | _, _, .cons a r => .cons a (dakv_vals r)
theorem kv_keys : ∀ {kvs : List (Key × V)} {vs : List (Key × Value)}, KV kvs vs → kvs.map (fun p => keyD p.1) = vs.map (fun p => keyD p.1)
  | _, _, .nil => rfl
  | _, _, .cons a r => by rw [List.map_cons, List.map_cons, kv_keys r, a.1]
theorem kv_vals : ∀ {kvs : List (Key × V)} {vs : List (Key × Value)}, KV kvs vs → Vals (kvs.map (·.2)) (vs.map (·.2))
  | _, _, .nil => .nil
  | _, _, .cons a r => .cons a.2 (kv_vals r)
theorem pairs_vals {P : Program} {w : World} : ∀ {es : List DictEntry} {vs : List (Key × Value)}, Pairs (mixKind P w) es vs → es.map (·.val) = vs.map (·.2)
  | _, _, .nil => rfl
  | _, _, .cons _ hv r => by rw [List.map_cons, List.map_cons, hv, pairs_vals r]
section
variable {X : Cx} {pins : List (Addr × Obj)} {σ : L2.St} {H : Hp} {s : Shared}
mutual
theorem DaF.reads {b : Bool} (I : Inv X pins σ H s) : ∀ (d : PyData) (v : V) (u : Value), DaF b X.K H v d → RelV v u → ∃ as, Reads s.heap u d as ∧ (b = true → sysModules ∉ as)
  | .none, _, _, h, r => by
    cases h; cases r
    exact ⟨_, Reads.none, fun _ => by simp⟩
  | .bool b, _, _, h, r => by
    cases h; cases r
    exact ⟨_, Reads.bool b, fun _ => by simp⟩
  | .int i, _, _, h, r => by
    cases h
    obtain ⟨t, rfl⟩ := r
    exact ⟨_, Reads.int i t, fun _ => by simp⟩
  | .str x, _, _, h, r => by
    cases h
    obtain ⟨t, rfl⟩ := r
    exact ⟨_, Reads.str x t, fun _ => by simp⟩
  | .list ds, _, _, h, r => by
    cases h with
    | lst hq hne ha =>
      cases r
      obtain ⟨its, rv, ⟨o, n, ho, hc, _, hd⟩, _⟩ := I.list hq
      obtain ⟨as, hr, hn⟩ := DaF.readsAll I ds _ its ha rv
      refine ⟨_, Reads.list ho hc hd hr, ?_⟩
      intro hb hm
      rcases List.mem_cons.mp hm with e | hm
      · exact hne hb e.symm
      · exact hn hb hm
  | .tuple ds, _, _, h, r => by
    cases h with
    | tup hq ha =>
      cases r
      obtain ⟨its, rv, ⟨o, ho, hc, n, hd⟩, _⟩ := I.tuple hq
      obtain ⟨as, hr, hn⟩ := DaF.readsAll I ds _ its ha rv
      exact ⟨_, Reads.tuple ho hc hd hr, hn⟩
  | .dict dk, _, _, h, r => by
    cases h with
    | dic hq ha =>
      cases r
      obtain ⟨_, hsys, vs, kv, o, es, ep, ho, hx, hd, _, hp, _⟩ := hq.ok I.hok
      obtain ⟨as1, r1, e1⟩ := kv_reads (h := s.heap) (kvs := []) (dk := dk) hp ((dakv_keys ha).trans (kv_keys kv))
      obtain ⟨as2, r2, hn⟩ := DaF.readsKv I dk _ (vs.map (·.2)) ha (kv_vals kv)
      subst e1
      refine ⟨_, Reads.dict ho hx.1 hd r1 (by rw [pairs_vals hp]; exact r2), ?_⟩
      intro hb hm
      rcases List.mem_append.mp hm with hm | hm
      · rcases List.mem_cons.mp hm with e | hm
        · rw [← e] at hsys; simp at hsys
        · simp at hm
      · exact hn hb hm
theorem DaF.readsAll {b : Bool} (I : Inv X pins σ H s) : ∀ (ds : List PyData) (vs : List V) (us : List Value), DaAllF b X.K H vs ds → Vals vs us → ∃ as, ReadsAll s.heap us ds as ∧ (b = true → sysModules ∉ as)
  | [], _, _, h, r => by
    cases h; cases r
    exact ⟨_, ReadsAll.nil, fun _ => by simp⟩
  | d :: ds, _, _, h, r => by
    cases h with
    | cons h1 h2 =>
      cases r with
      | cons r1 r2 =>
        obtain ⟨as, q1, n1⟩ := DaF.reads I d _ _ h1 r1
        obtain ⟨bs, q2, n2⟩ := DaF.readsAll I ds _ _ h2 r2
        exact ⟨_, ReadsAll.cons q1 q2, fun hb hm => (List.mem_append.mp hm).elim (n1 hb) (n2 hb)⟩
theorem DaF.readsKv {b : Bool} (I : Inv X pins σ H s) : ∀ (dk : List (PyData × PyData)) (kvs : List (Key × V)) (us : List Value), DaKvF b X.K H kvs dk → Vals (kvs.map (·.2)) us → ∃ as, ReadsAll s.heap us (dk.map (·.2)) as ∧ (b = true → sysModules ∉ as)
  | [], _, _, h, r => by
    cases h; cases r
    exact ⟨_, ReadsAll.nil, fun _ => by simp⟩
  | (_, d) :: dk, _, _, h, r => by
    cases h with
    | cons h1 h2 =>
      cases r with
      | cons r1 r2 =>
        obtain ⟨as, q1, n1⟩ := DaF.reads I d _ _ h1 r1
        obtain ⟨bs, q2, n2⟩ := DaF.readsKv I dk _ _ h2 r2
        exact ⟨_, ReadsAll.cons q1 q2, fun hb hm => (List.mem_append.mp hm).elim (n1 hb) (n2 hb)⟩
end
/-- what may be shown -/
structure Shw (d : PyData) : Prop where
  sh : d.showable = true
  dp : d.depth ≤ 20
  sz : d.shown.length ≤ sizeLine
theorem call_reprD (hr : Rg 1 X.A) : CallR X (.builtin "repr") (fun xs H Q => ∃ b v d, xs = [v] ∧ DaF b X.K H v d ∧ (b = true ∨ d.hasDict = false) ∧ Shw d ∧ Q (.str d.shown) H) := by
  intro pins s σ H xs us Q I r h
  obtain ⟨b, v, d, rfl, hd, hb, hw, q⟩ := h
  obtain ⟨u, rfl, rv⟩ := vals1 r
  have hu := hr.room.un
  cases hd with
  | non =>
    cases rv
    refine PySem.P.repr_of_none ⟨.str _, H, I.tok _, ⟨_, rfl⟩, ?_⟩
    simpa only [PyData.shown] using q
  | bl b =>
    cases rv
    refine PySem.P.repr_of_bool ⟨.str _, H, I.tok _, ⟨_, rfl⟩, ?_⟩
    simpa only [PyData.shown] using q
  | int i =>
    obtain ⟨t, rfl⟩ := rv
    refine PySem.P.repr_of_int (by have := hw.sh; simpa [PyData.showable] using this) ⟨.str _, H, I.tok _, ⟨_, rfl⟩, ?_⟩
    simpa only [PyData.shown] using q
  | str x =>
    obtain ⟨t, rfl⟩ := rv
    refine PySem.P.repr_of_str ⟨.str _, H, I.tok _, ⟨_, rfl⟩, ?_⟩ (by have := hw.sz; simpa only [PyData.shown] using this)
    simpa only [PyData.shown] using q
  | lst h1 h0 h2 =>
    obtain ⟨as, hR, hn⟩ := DaF.reads I _ _ _ (.lst h1 h0 h2) rv
    cases rv
    exact repr_of_reads' hR hw.sh (fun z => hn (hb.resolve_right (by rw [z]; exact Bool.noConfusion))) hr.gd (by have := hw.dp; omega) (fun _ _ e => e) (fun h' u tk k => ⟨.str _, H, I.kept k, ⟨_, rfl⟩, q⟩) hw.sz
  | tup h1 h2 =>
    obtain ⟨as, hR, hn⟩ := DaF.reads I _ _ _ (.tup h1 h2) rv
    cases rv
    exact repr_of_reads' hR hw.sh (fun z => hn (hb.resolve_right (by rw [z]; exact Bool.noConfusion))) hr.gd (by have := hw.dp; omega) (fun _ _ e => e) (fun h' u tk k => ⟨.str _, H, I.kept k, ⟨_, rfl⟩, q⟩) hw.sz
  | dic h1 h2 =>
    obtain ⟨as, hR, hn⟩ := DaF.reads I _ _ _ (.dic h1 h2) rv
    cases rv
    exact repr_of_reads' hR hw.sh (fun z => hn (hb.resolve_right (by rw [z]; exact Bool.noConfusion))) hr.gd (by have := hw.dp; omega) (fun _ _ e => e) (fun h' u tk k => ⟨.str _, H, I.kept k, ⟨_, rfl⟩, q⟩) hw.sz
end
abbrev Da := DaF false
abbrev DaAll := DaAllF false
abbrev DaKv := DaKvF false
abbrev DaS := DaF true
abbrev DaAllS := DaAllF true
theorem Da.lst {K : PySem.W.Frag} {H : Hp} {a : Addr} {xs : List V} {ds : List PyData} (h : SqL K H a xs) (k : DaAll K H xs ds) : Da K H (.ref a) (.list ds) := DaF.lst h Bool.noConfusion k
mutual
theorem DaF.da {b : Bool} {K : PySem.W.Frag} {H : Hp} : ∀ {v : V} {d : PyData}, DaF b K H v d → Da K H v d
  | _, _, .non => DaF.non
  | _, _, .bl c => DaF.bl c
  | _, _, .int i => DaF.int i
  | _, _, .str x => DaF.str x
  | _, _, .lst h _ a => DaF.lst h Bool.noConfusion (DaAllF.da a)
  | _, _, .tup h a => DaF.tup h (DaAllF.da a)
  | _, _, .dic h a => DaF.dic h (DaKvF.da a)
theorem DaAllF.da {b : Bool} {K : PySem.W.Frag} {H : Hp} : ∀ {vs : List V} {ds : List PyData}, DaAllF b K H vs ds → DaAll K H vs ds
  | _, _, .nil => DaAllF.nil
  | _, _, .cons a r => DaAllF.cons (DaF.da a) (DaAllF.da r)
theorem DaKvF.da {b : Bool} {K : PySem.W.Frag} {H : Hp} : ∀ {kvs : List (Key × V)} {ds : List (PyData × PyData)}, DaKvF b K H kvs ds → DaKv K H kvs ds
  | _, _, .nil => DaKvF.nil
  | _, _, .cons a r => DaKvF.cons (DaF.da a) (DaKvF.da r)
end
end KX

namespace KX
open PySem PySem.Spec PyProof.Rows L2
/-! ### the readings, by their heads: one row a reading, for a stepping that looks at the head alone -/
theorem Same.get {H H' : Hp} {a : Addr} {o : HO} (s : Same H H') (h : H a = some o) : H' a = some o := s _ _ h
/-- all but what stands at r is as it was -/
def Off (r : Addr) (H H' : Hp) : Prop := ∀ b o, b ≠ r → H b = some o → H' b = some o
theorem Off.get {r : Addr} {H H' : Hp} {a : Addr} {o : HO} (s : Off r H H') (n : a ≠ r) (h : H a = some o) : H' a = some o := s _ _ n h
theorem Off.refl (r : Addr) (H : Hp) : Off r H H := fun _ _ _ e => e
theorem Off.trans {r : Addr} {H H1 H2 : Hp} (a : Off r H H1) (b : Off r H1 H2) : Off r H H2 := fun c o n e => b c o n (a c o n e)
theorem Off.of_same {r : Addr} {H H' : Hp} (a : Same H H') : Off r H H' := fun c o _ e => a c o e
theorem off_upd {r : Addr} {H : Hp} {o : HO} : Off r H (L2.upd H r o) := fun c u n e => by
  rw [upd_ne n]; exact e
theorem same_new {H : Hp} {p : Addr} {o : HO} (h : H p = none) : Same H (L2.upd H p o) := fun b x e => by
  rw [upd_ne (ne_of_none e h)]; exact e
/-- what is written at an address that was free leaves all as it was -/
theorem Off.new {p : Addr} {H H1 H2 : Hp} (n : H p = none) (a : Same H H1) (b : Off p H1 H2) : Same H H2 := fun c o e => b c o (ne_of_none e n) (a c o e)
theorem Off.thenS {r : Addr} {H H1 H2 : Hp} (b : Same H1 H2) (a : Off r H H1) : Off r H H2 := a.trans (.of_same b)
theorem Off.thenO {r : Addr} {H H1 H2 : Hp} (b : Off r H1 H2) (a : Off r H H1) : Off r H H2 := a.trans b
theorem Off.thenF {r p : Addr} {H H0 H1 H2 : Hp} (b : Off p H1 H2) (n : H0 p = none) (a0 : Off r H H0) (a : Off r H H1) : Off r H H2 := fun c o hc e => b c o (ne_of_none (a0 c o hc e) n) (a c o hc e)
theorem Same.thenS {H H1 H2 : Hp} (b : Same H1 H2) (a : Same H H1) : Same H H2 := a.trans b
theorem Same.thenF {p : Addr} {H H0 H1 H2 : Hp} (b : Off p H1 H2) (n : H0 p = none) (a0 : Same H H0) (a : Same H H1) : Same H H2 := fun c o e => b c o (ne_of_none (a0 c o e) n) (a c o e)
theorem ne_some {H : Hp} {a b : Addr} {o : HO} (h' : H b = none) (h : H a = some o) : a ≠ b := ne_of_none h h'
/-- a new object: what follows, in the rules' form and over a heap that is told by what it holds -/
def NewR (H : Hp) (o : HO) (Q : VK) : Prop := ∀ p, H p = none → Q (.ref p) (upd H p o)
def New (H : Hp) (o : HO) (Q : VK) : Prop := ∀ p H', H p = none → Same H H' → H' p = some o → Q (.ref p) H'
theorem i_new {H : Hp} {o : HO} {Q : VK} (q : ∀ p H', H p = none → Same H H' → H' p = some o → Q (.ref p) H') : NewR H o Q := fun p hp => q p _ hp (same_new hp) upd_same
def PutR (H : Hp) (p : Addr) (o : HO) (R : Hp → Prop) : Prop := R (upd H p o)
theorem i_put {H : Hp} {p : Addr} {o : HO} {R : Hp → Prop} (q : ∀ H', Off p H H' → H' p = some o → R H') : PutR H p o R := q _ off_upd upd_same
def DispR (trs : List (TE × TE)) (σ : L2.St) (H : Hp) (Q : VK) : Prop := ∀ p, H p = none → tPairs trs σ (upd H p (.dK [])) fun ps H2 => H2 p = some (.dK []) ∧ ∃ kvs : List (Key × V), ps = kvs.map (fun kv => (kV kv.1, kv.2)) ∧ kvs.length ≤ 15 ∧ PutR H2 p (.dK (mergeK [] kvs)) (Q (.ref p))
theorem i_dispR {trs : List (TE × TE)} {σ : L2.St} {H : Hp} {Q : VK} (q : ∀ p H1, H p = none → Same H H1 → H1 p = some (.dK []) → tPairs trs σ H1 fun ps H2 => H2 p = some (.dK []) ∧ ∃ kvs : List (Key × V), ps = kvs.map (fun kv => (kV kv.1, kv.2)) ∧ kvs.length ≤ 15 ∧ PutR H2 p (.dK (mergeK [] kvs)) (Q (.ref p))) : DispR trs σ H Q := fun p hp => q p _ hp (same_new hp) upd_same
/-- loops and comprehensions over an iterator J -/
def ForR (J : It) (g : TG) (tb : TS) (D : Ends) (σ : L2.St) (H : Hp) : Prop := ∃ W : Nat → Nat → L2.St → Hp → Prop, (∃ m, W 0 m σ H) ∧ ∀ i m σ H, W i m σ H →
  (J.stop i H ∧ D.nx σ H) ∨ (J.go i H ∧ ∃ N : L2.St → Hp → Prop, (∀ σ' H', N σ' H' → ∃ m', m' < m ∧ W (i + 1) m' σ' H') ∧ ∀ x H', J.yld i H x H' → g x σ H' fun σ2 H2 => tb { D with nx := N, ct := N, bk := D.nx } σ2 H2)
def LcR (J : It) (g : TG) (tt : TT) (te : TE) (vs : List Nat) (σ : L2.St) (H1 : Hp) (Q : VK) : Prop := ∀ D, H1 D = none → ∃ W : Nat → Nat → Hp → Prop, (∃ m, W 0 m (upd H1 D (.lst []))) ∧ ∀ i m H, W i m H →
  (J.stop i H ∧ Q (.ref D) H) ∨ (J.go i H ∧ ∃ Nx : Hp → Prop, (∀ H', Nx H' → ∃ m', m' < m ∧ W (i + 1) m' H') ∧ ∀ x H', J.yld i H x H' → g x (wipe σ vs) H' fun σ2 H2 => wipe σ2 vs = wipe σ vs ∧ tt σ2 H2 fun b H3 =>
    if b = true then te σ2 H3 fun y H4 => ∃ acc, H4 D = some (.lst acc) ∧ acc.length < sizeLine ∧ Nx (upd H4 D (.lst (acc ++ [y]))) else Nx H3)
/-- J walks the items xs while G stands -/
structure Wk (J : It) (xs : List V) (G : Hp → Prop) : Prop where
  go : ∀ i H, G H → i < xs.length → J.go i H
  yl : ∀ i H x H', G H → J.yld i H x H' → i < xs.length → H' = H ∧ xs[i]? = some x
  st : ∀ i H, G H → xs.length ≤ i → J.stop i H
theorem wk_list {K : PySem.W.Frag} {a : Addr} {xs : List V} : Wk (Itl K a) xs fun H => SqL K H a xs where
  go := fun i H g h => ⟨xs, xs[i], g, by simp [h]⟩
  yl := fun i H x H' g y _ => ⟨y.1, y.2 xs g⟩
  st := fun i H g h => ⟨xs, g, h⟩
theorem wk_tup {K : PySem.W.Frag} {a : Addr} {xs : List V} : Wk (Itt K a) xs fun H => SqT K H a xs where
  go := fun i H g h => ⟨xs, xs[i], g, by simp [h]⟩
  yl := fun i H x H' g y _ => ⟨y.1, y.2 xs g⟩
  st := fun i H g h => ⟨xs, g, h⟩
def rangeV (lo : Int) (n : Nat) : List V := (List.range n).map fun i : Nat => V.int (lo + i)
theorem rangeV_len (lo : Int) (n : Nat) : (rangeV lo n).length = n := by simp [rangeV]
theorem rangeV_get {lo : Int} {n i : Nat} (h : i < n) : (rangeV lo n)[i]? = some (V.int (lo + i)) := by simp [rangeV, h]
theorem wk_range {lo : Int} {n : Nat} : Wk (Itr lo n) (rangeV lo n) fun _ => True where
  go := fun i H _ h => by rw [rangeV_len] at h; exact h
  yl := fun i H x H' _ y h => ⟨y.1, by rw [rangeV_len] at h; rw [rangeV_get h, y.2]⟩
  st := fun i H _ h => by rw [rangeV_len] at h; exact h
def signsV (x : Str) : List V := x.cps.toList.map fun c => V.str ⟨#[c]⟩
theorem signsV_len (x : Str) : (signsV x).length = x.cps.size := by simp [signsV]
theorem wk_str {x : Str} : Wk (Its x) (signsV x) fun _ => True where
  go := fun i H _ h => by rw [signsV_len] at h; exact h
  yl := fun i H v H' _ y h => by
    obtain ⟨e, c, hc, hv⟩ := y
    refine ⟨e, ?_⟩
    rw [hv]
    simp [signsV, hc]
  st := fun i H _ h => by rw [signsV_len] at h; exact h
theorem f_wk {J : It} {xs : List V} {G : Hp → Prop} (W : Wk J xs G) {g : TG} {tb : TS} {f b k : L2.St → Hp → Prop} {Q : VK} {σ : L2.St} {H : Hp} (Pv : Nat → L2.St → Hp → Prop) (h0 : Pv 0 σ H) (hG : ∀ i σ H, Pv i σ H → G H)
    (hs : ∀ i x σ H, xs[i]? = some x → Pv i σ H → g x σ H fun σ2 H2 => tb ⟨Pv (i + 1), Q, f, Pv (i + 1)⟩ σ2 H2) (hd : ∀ σ H, Pv xs.length σ H → f σ H) : ForR J g tb ⟨f, Q, b, k⟩ σ H := by
  refine ⟨fun i m σ H => m = xs.length - i ∧ i ≤ xs.length ∧ Pv i σ H, ⟨xs.length, by simp, Nat.zero_le _, h0⟩, ?_⟩
  rintro i m σ H ⟨rfl, hi, p⟩
  by_cases hlt : i < xs.length
  · refine .inr ⟨W.go i H (hG _ _ _ p) hlt, Pv (i + 1), fun σ' H' p' => ⟨xs.length - (i + 1), by omega, rfl, hlt, p'⟩, fun x H' y => ?_⟩
    obtain ⟨e, y2⟩ := W.yl i H x H' (hG _ _ _ p) y hlt
    subst e
    exact hs i x σ _ y2 p
  · have e : i = xs.length := by omega
    subst e
    exact .inl ⟨W.st _ H (hG _ _ _ p) (Nat.le_refl _), hd σ H p⟩
/-- the comprehension's list gets its next item -/
def LcEl (D : Addr) (P1 : List V → Hp → Prop) (y : V) (H4 : Hp) : Prop := ∃ acc, H4 D = some (.lst acc) ∧ acc.length < sizeLine ∧ PutR H4 D (.lst (acc ++ [y])) fun H => ∃ ys, P1 ys H
theorem i_lcEl {D : Addr} {P1 : List V → Hp → Prop} {y : V} {H : Hp} {acc : List V} (h : H D = some (.lst acc)) (z : acc.length < sizeLine) (q : ∀ H', Off D H H' → H' D = some (.lst (acc ++ [y])) → P1 (acc ++ [y]) H') : LcEl D P1 y H :=
  ⟨acc, h, z, _, q _ off_upd upd_same⟩
theorem l_wk {J : It} {xs : List V} {G : Hp → Prop} (W : Wk J xs G) {g : TG} {tt : TT} {te : TE} {vs : List Nat} {Q : VK} {σ : L2.St} {H1 : Hp}
    (q : ∀ D H0, H1 D = none → Same H1 H0 → H0 D = some (.lst []) → ∃ Pv : Nat → List V → Hp → Prop, Pv 0 [] H0 ∧ (∀ i ys H, Pv i ys H → G H) ∧
      (∀ i ys x H, xs[i]? = some x → Pv i ys H → g x (wipe σ vs) H fun σ2 H2 => wipe σ2 vs = wipe σ vs ∧ tt σ2 H2 fun b H3 =>
        if b = true then te σ2 H3 fun y H4 => LcEl D (Pv (i + 1)) y H4 else ∃ ys, Pv (i + 1) ys H3) ∧
      (∀ ys H, Pv xs.length ys H → Q (.ref D) H)) : LcR J g tt te vs σ H1 Q := by
  intro D hD
  obtain ⟨Pv, h0, hG, hs, hd⟩ := q D _ hD (same_new hD) upd_same
  refine ⟨fun i m H => m = xs.length - i ∧ i ≤ xs.length ∧ ∃ ys, Pv i ys H, ⟨xs.length, by simp, Nat.zero_le _, _, h0⟩, ?_⟩
  rintro i m H ⟨rfl, hi, ys, p⟩
  by_cases hlt : i < xs.length
  · refine .inr ⟨W.go i H (hG _ _ _ p) hlt, fun H => ∃ ys, Pv (i + 1) ys H, fun H' p' => ⟨xs.length - (i + 1), by omega, rfl, hlt, p'⟩, fun x H' y => ?_⟩
    obtain ⟨e, y2⟩ := W.yl i H x H' (hG _ _ _ p) y hlt
    subst e
    exact hs i ys x _ y2 p
  · have e : i = xs.length := by omega
    subst e
    exact .inl ⟨W.st _ H (hG _ _ _ p) (Nat.le_refl _), hd ys H p⟩
/-- a comprehension whose test and element change nothing of what was tracked: what it lists -/
theorem l_filter {J : It} {xs : List V} {G : Hp → Prop} (W : Wk J xs G) {g : TG} {tt : TT} {te : TE} {vs : List Nat} {Q : VK} {σ : L2.St} {H1 : Hp} (p : V → Bool) (F : V → V) (hlen : xs.length < sizeLine) (hG : ∀ H', Same H1 H' → G H')
    (hs : ∀ (i : Nat) x H' (R : VK) (N : Hp → Prop), xs[i]? = some x → Same H1 H' → (p x = true → ∀ H'', Same H' H'' → R (F x) H'') → (p x = false → ∀ H'', Same H' H'' → N H'') →
      g x (wipe σ vs) H' fun σ2 H2 => wipe σ2 vs = wipe σ vs ∧ tt σ2 H2 fun b H3 => if b = true then te σ2 H3 R else N H3)
    (q : ∀ D H', H1 D = none → Same H1 H' → H' D = some (.lst ((xs.filter p).map F)) → Q (.ref D) H') : LcR J g tt te vs σ H1 Q := by
  refine l_wk W fun D H0 n0 s0 e0 => ⟨fun i ys H => Same H1 H ∧ H D = some (.lst ys) ∧ ys = ((xs.take i).filter p).map F ∧ ys.length ≤ i, ⟨s0, e0, rfl, Nat.le_refl _⟩, fun i ys H h => hG _ h.1, fun i ys x H hx h => ?_, fun ys H h => ?_⟩
  · obtain ⟨s1, e1, hy, hl⟩ := h
    have hi : i < xs.length := by
      have := List.getElem?_eq_some_iff.mp hx
      exact this.1
    have ht : xs.take (i + 1) = xs.take i ++ [x] := by rw [List.take_add_one, hx]; rfl
    refine hs i x H (fun y H4 => LcEl D (fun ys H => Same H1 H ∧ H D = some (.lst ys) ∧ ys = ((xs.take (i + 1)).filter p).map F ∧ ys.length ≤ i + 1) y H4) (fun H3 => ∃ ys, Same H1 H3 ∧ H3 D = some (.lst ys) ∧ ys = ((xs.take (i + 1)).filter p).map F ∧ ys.length ≤ i + 1) hx s1 (fun hp H'' s2 => ?_) fun hp H'' s2 => ?_
    · refine i_lcEl (s2 _ _ e1) (by omega) fun H5 o5 e5 => ⟨Off.new n0 (s1.trans s2) o5, e5, ?_, by simp; omega⟩
      rw [ht, List.filter_append, List.map_append, hy]
      simp [hp]
    · refine ⟨ys, s1.trans s2, s2 _ _ e1, ?_, by omega⟩
      rw [ht, List.filter_append, List.map_append, hy]
      simp [hp]
  · obtain ⟨s1, e1, hy, hl⟩ := h
    rw [List.take_length] at hy
    rw [hy] at e1
    exact q D H n0 s1 e1
theorem l_map {J : It} {xs : List V} {G : Hp → Prop} (W : Wk J xs G) {g : TG} {te : TE} {vs : List Nat} {Q : VK} {σ : L2.St} {H1 : Hp} (F : V → V) (hlen : xs.length < sizeLine) (hG : ∀ H', Same H1 H' → G H')
    (hs : ∀ (i : Nat) x H' (R : VK), xs[i]? = some x → Same H1 H' → (∀ H'', Same H' H'' → R (F x) H'') → g x (wipe σ vs) H' fun σ2 H2 => wipe σ2 vs = wipe σ vs ∧ te σ2 H2 R)
    (q : ∀ D H', H1 D = none → Same H1 H' → H' D = some (.lst (xs.map F)) → Q (.ref D) H') : LcR J g tYes te vs σ H1 Q := by
  refine l_filter W (fun _ => true) F hlen hG (fun i x H' R N hx s1 hR _ => ?_) (fun D H' n s e => q D H' n s (by rw [e, List.filter_eq_self.mpr (by simp)]))
  have e : (fun (σ2 : L2.St) H2 => wipe σ2 vs = wipe σ vs ∧ tYes σ2 H2 fun b H3 => if b = true then te σ2 H3 R else N H3) = fun σ2 H2 => wipe σ2 vs = wipe σ vs ∧ te σ2 H2 R := by
    funext σ2 H2
    show (_ ∧ if true = true then te σ2 H2 R else N H2) = _
    rw [if_pos rfl]
  rw [e]
  exact hs i x H' R hx s1 (hR rfl)
section
variable {K : PySem.W.Frag} {σ σ' : L2.St} {H : Hp} {Q : VK} {D : Ends} {a b c : TE}
theorem i_var {i : Nat} {v : V} (h : σ[i]? = some (some v)) (q : Q v H) : tVar i σ H Q := ⟨v, h, q⟩
theorem i_c {v : V} (q : Q v H) : tC v σ H Q := q
theorem i_op {r : R2} (q : a σ H fun x H1 => b σ H1 fun y H2 => r x y H2 Q) : tOp r a b σ H Q := q
theorem i_un {r : V → Hp → VK → Prop} (q : a σ H fun x H1 => r x H1 Q) : tUn r a σ H Q := q
theorem i_rI {C : Int → Int → Prop} {g : Int → Int → V} {i j : Int} (c : C i j) (q : Q (g i j) H) : rI C g (.int i) (.int j) H Q := ⟨i, j, rfl, rfl, c, q⟩
theorem i_rI0 {g : Int → Int → V} {i j : Int} (q : Q (g i j) H) : rI0 g (.int i) (.int j) H Q := ⟨i, j, rfl, rfl, q⟩
theorem i_rU {g : Int → V} {i : Int} (q : Q (g i) H) : rU g (.int i) H Q := ⟨i, rfl, q⟩
theorem i_rEq {x y : V} (h : scal x y = true) (q : Q (.bl (decide (x = y))) H) : rEq x y H Q := ⟨h, q⟩
theorem i_rNe {x y : V} (h : scal x y = true) (q : Q (.bl (!decide (x = y))) H) : rNe x y H Q := ⟨h, q⟩
theorem i_rIxL {p : Addr} {xs : List V} {i : Int} {v : V} (h : SqL K H p xs) (e : atI xs i = some v) (q : Q v H) : rIxL K (.ref p) (.int i) H Q := ⟨p, xs, i, v, rfl, rfl, h, e, q⟩
theorem i_rIxT {p : Addr} {xs : List V} {i : Int} {v : V} (h : SqT K H p xs) (e : atI xs i = some v) (q : Q v H) : rIxT K (.ref p) (.int i) H Q := ⟨p, xs, i, v, rfl, rfl, h, e, q⟩
theorem i_rIxS {z : Str} {i : Int} {c : Nat} (h : z.length ≤ sizeLine) (e : atI z.cps.toList i = some c) (q : Q (.str ⟨#[c]⟩) H) : rIxS (.str z) (.int i) H Q := ⟨z, i, c, rfl, rfl, h, e, q⟩
theorem i_rSlS {z : Str} {lo hi : Option Int} (h : z.length ≤ sizeLine) (q : Q (.str (cutS z lo hi)) H) : rSlS (.str z) lo hi H Q := ⟨z, rfl, h, q⟩
theorem i_rSlL {p : Addr} {xs : List V} {lo hi : Option Int} (h : SqL K H p xs) (q : NewR H (.lst (cutV xs lo hi)) Q) : rSlL K (.ref p) lo hi H Q := ⟨p, xs, rfl, h, q⟩
theorem i_noPart {R : Option Int → Hp → Prop} (q : R none H) : tNoPart σ H R := q
theorem i_part {R : Option Int → Hp → Prop} (q : a σ H fun x H1 => ∃ i, x = .int i ∧ R (some i) H1) : tPart a σ H R := q
theorem i_sl {r : V → Option Int → Option Int → Hp → VK → Prop} {tl th : TO} (q : a σ H fun x H1 => tl σ H1 fun l H2 => th σ H2 fun u H3 => r x l u H3 Q) : tSl r a tl th σ H Q := q
theorem i_test {R : Bool → Hp → Prop} (q : a σ H fun x H1 => ∃ k, x = .bl k ∧ R k H1) : tTest a σ H R := q
theorem i_tB {R : Bool → Hp → Prop} (q : a σ H fun x H1 => ∃ k, x = .bl k ∧ R k H1) : tB a σ H R := q
theorem i_exbl {R : Bool → Hp → Prop} {k : Bool} (q : R k H) : ∃ k', V.bl k = .bl k' ∧ R k' H := ⟨k, rfl, q⟩
theorem i_exint {R : Int → Prop} {k : Int} (q : R k) : ∃ k', V.int k = .int k' ∧ R k' := ⟨k, rfl, q⟩
theorem i_and {t u : TT} {R : Bool → Hp → Prop} (q : t σ H fun c H1 => if c = true then u σ H1 R else R false H1) : tAnd t u σ H R := q
theorem i_or {t u : TT} {R : Bool → Hp → Prop} (q : t σ H fun c H1 => if c = true then R true H1 else u σ H1 R) : tOr t u σ H R := q
theorem i_not {t : TT} {R : Bool → Hp → Prop} (q : t σ H fun c H1 => R (!c) H1) : tNot t σ H R := q
theorem i_andV (q : a σ H fun x H1 => ∃ c, x = .bl c ∧ if c = true then b σ H1 Q else Q (.bl false) H1) : tAndV a b σ H Q := q
theorem i_orV (q : a σ H fun x H1 => ∃ c, x = .bl c ∧ if c = true then Q (.bl true) H1 else b σ H1 Q) : tOrV a b σ H Q := q
theorem i_notV (q : a σ H fun x H1 => ∃ c, x = .bl c ∧ Q (.bl (!c)) H1) : tNotV a σ H Q := q
theorem i_if {t : TT} (q : t σ H fun c H1 => if c = true then a σ H1 Q else b σ H1 Q) : tIf t a b σ H Q := q
theorem i_isN {x : V} (q : Q (.bl (decide (x = .non))) H) : (V.non = V.non ∧ Q (.bl (decide (x = .non))) H) := ⟨rfl, q⟩
theorem i_chain {r r' : R2} (q : a σ H fun x H1 => b σ H1 fun y H2 => r x y H2 fun z H3 => ∃ k, z = .bl k ∧ (if k = true then c σ H3 fun w' H4 => r' y w' H4 Q else Q (.bl false) H3)) : tChain r r' a b c σ H Q := q
theorem i_next {f g k : L2.St → Hp → Prop} (q : f σ H) : tNext ⟨f, Q, g, k⟩ σ H := q
theorem i_seq {t u : TS} {f g k : L2.St → Hp → Prop} (q : t ⟨u ⟨f, Q, g, k⟩, Q, g, k⟩ σ H) : tSeq t u ⟨f, Q, g, k⟩ σ H := q
theorem i_drop {f g k : L2.St → Hp → Prop} (q : a σ H fun _ H1 => f σ H1) : tDrop a ⟨f, Q, g, k⟩ σ H := q
theorem i_ret {f g k : L2.St → Hp → Prop} (q : a σ H Q) : tRet a ⟨f, Q, g, k⟩ σ H := q
theorem i_retN {f g k : L2.St → Hp → Prop} (q : Q .non H) : tRetN ⟨f, Q, g, k⟩ σ H := q
theorem i_ifS {c : TT} {t u : TS} (q : c σ H fun b H1 => if b = true then t D σ H1 else u D σ H1) : tIfS c t u D σ H := q
theorem i_asg {g : TG} {f g1 k : L2.St → Hp → Prop} (q : a σ H fun x H1 => g x σ H1 f) : tAsg a g ⟨f, Q, g1, k⟩ σ H := q
theorem i_par {i j : Nat} {t : TA} {f g1 k : L2.St → Hp → Prop} (q : t σ H fun vs H1 => ∃ v w, vs = [v, w] ∧ f ((σ.set i (some v)).set j (some w)) H1) : tPar i j t ⟨f, Q, g1, k⟩ σ H := q
theorem i_ex2 {R : V → V → Prop} {v w : V} (q : R v w) : ∃ v' w', [v, w] = [v', w'] ∧ R v' w' := ⟨v, w, rfl, q⟩
theorem i_aug {i : Nat} {x : V} {ti : TIp} {f g1 k : L2.St → Hp → Prop} (h : σ[i]? = some (some x)) (q : a σ H fun y H1 => ti x y H1 fun z H2 => f (σ.set i (some z)) H2) : tAug i a ti ⟨f, Q, g1, k⟩ σ H := ⟨x, h, q⟩
theorem i_gName {i : Nat} {v : V} {R : L2.St → Hp → Prop} (h : σ.set i (some v) = σ') (q : R σ' H) : gName i v σ H R := by
  subst h; exact q
theorem i_gNil {R : L2.St → Hp → Prop} (q : R σ H) : gNil [] σ H R := ⟨rfl, q⟩
theorem i_gCons {v : V} {r : List V} {g : TG} {u : TGs} {R : L2.St → Hp → Prop} (q : g v σ H fun s h => u r s h R) : gCons g u (v :: r) σ H R := ⟨v, r, rfl, q⟩
theorem i_gTup {p : Addr} {xs : List V} {n : Nat} {t : TGs} {R : L2.St → Hp → Prop} (h : SqT K H p xs) (e : xs.length = n) (q : t xs σ H R) : gTup K n t (.ref p) σ H R := ⟨p, xs, rfl, h, e, q⟩
theorem i_gSub {v : V} {t : TSet} {R : L2.St → Hp → Prop} (q : a σ H fun o H1 => b σ H1 fun i H2 => t o i v H2 fun H3 => R σ H3) : gSub a b t v σ H R := q
theorem i_rSetL {p : Addr} {xs : List V} {k : Int} {j : Nat} {v : V} {R : Hp → Prop} (h : H p = some (.lst xs)) (e : ixN xs.length k = some j) (q : PutR H p (.lst (xs.set j v)) R) : rSetL (.ref p) (.int k) v H R := ⟨p, xs, k, j, rfl, rfl, h, e, q⟩
theorem i_nil {R : List V → Hp → Prop} (q : R [] H) : tNil σ H R := q
theorem i_cons {t : TA} {R : List V → Hp → Prop} (q : a σ H fun x H1 => t σ H1 fun xs H2 => R (x :: xs) H2) : tCons a t σ H R := q
theorem i_tup {t : TA} (q : t σ H fun xs H1 => xs.length ≤ sizeLine ∧ NewR H1 (.tup xs) Q) : tTup t σ H Q := q
theorem i_lst {t : TA} (q : t σ H fun xs H1 => xs.length ≤ sizeLine ∧ NewR H1 (.lst xs) Q) : tLst t σ H Q := q
theorem i_newDK (q : NewR H (.dK []) Q) : tDNewK σ H Q := q
theorem i_disp {trs : List (TE × TE)} (q : DispR trs σ H Q) : tDisp trs σ H Q := q
theorem i_pairs0 {R : List (V × V) → Hp → Prop} (q : R [] H) : tPairs [] σ H R := q
theorem i_pairs1 {r : List (TE × TE)} {R : List (V × V) → Hp → Prop} (q : a σ H fun x H1 => b σ H1 fun y H2 => tPairs r σ H2 fun ps H3 => R ((x, y) :: ps) H3) : tPairs ((a, b) :: r) σ H R := q
theorem i_call {sp : Sp} {dvs : List V} {E : XK} {t : TA} (q : t σ H fun vs H1 => sp (vs ++ dvs) H1 Q E) : tCall sp dvs E t σ H Q := q
theorem i_cb {r : List V → Hp → VK → Prop} {t : TA} (q : t σ H fun vs H1 => r vs H1 Q) : tCB r t σ H Q := q
theorem i_bm {T : String} {r : V → List V → Hp → VK → Prop} {t : TA} (q : a σ H fun x H1 => tyV K T x H1 ∧ t σ H1 fun xs H2 => r x xs H2 Q) : tBM K T r a t σ H Q := q
theorem i_m1 {r : V → List V → Hp → VK → Prop} (q : a σ H fun x H1 => (∃ a, x = .str a) ∧ b σ H1 fun y H2 => r x [y] H2 Q) : tM1 r a b σ H Q := q
theorem i_m0 {r : V → List V → Hp → VK → Prop} (q : a σ H fun x H1 => (∃ a, x = .str a) ∧ r x [] H1 Q) : tM0 r a σ H Q := q
theorem i_rAppend {l : Addr} {xs : List V} {y : V} (h : H l = some (.lst xs)) (z : xs.length < sizeLine) (q : PutR H l (.lst (xs ++ [y])) (Q .non)) : rAppend (.ref l) [y] H Q := ⟨l, xs, y, rfl, rfl, h, z, q⟩
theorem i_rAll {p : Addr} {bs : List Bool} (h : SqL K H p (bs.map V.bl)) (q : Q (.bl (bs.all id)) H) : rAll K [.ref p] H Q := ⟨p, bs, rfl, h, q⟩
theorem i_rAny {p : Addr} {bs : List Bool} (h : SqL K H p (bs.map V.bl)) (q : Q (.bl (bs.any id)) H) : rAny K [.ref p] H Q := ⟨p, bs, rfl, h, q⟩
theorem i_rng1 {t : TA} {R : It → Hp → Prop} (q : t σ H fun vs H1 => ∃ j : Int, vs = [.int j] ∧ -(2 ^ 62) ≤ j ∧ j < 2 ^ 62 ∧ R (Itr 0 j.toNat) H1) : iRng1 t σ H R := q
theorem i_exrng {R : It → Hp → Prop} {j : Int} (h1 : -(2 ^ 62) ≤ j) (h2 : j < 2 ^ 62) (q : R (Itr 0 j.toNat) H) : ∃ j' : Int, [V.int j] = [.int j'] ∧ -(2 ^ 62) ≤ j' ∧ j' < 2 ^ 62 ∧ R (Itr 0 j'.toNat) H := ⟨j, rfl, h1, h2, q⟩
theorem i_iList {R : It → Hp → Prop} (q : a σ H fun x H1 => ∃ p, x = .ref p ∧ (∃ xs, SqL K H1 p xs) ∧ R (Itl K p) H1) : iList K a σ H R := q
theorem i_exl {R : It → Hp → Prop} {p : Addr} {xs : List V} (h : SqL K H p xs) (q : R (Itl K p) H) : ∃ p', V.ref p = .ref p' ∧ (∃ xs, SqL K H p' xs) ∧ R (Itl K p') H := ⟨p, rfl, ⟨xs, h⟩, q⟩
theorem i_iStr {R : It → Hp → Prop} (q : a σ H fun v H1 => ∃ x, v = .str x ∧ R (Its x) H1) : iStr a σ H R := q
theorem i_exs {R : Str → Prop} {x : Str} (q : R x) : ∃ x', V.str x = .str x' ∧ R x' := ⟨x, rfl, q⟩
theorem i_for {wi : TI} {g : TG} {tb : TS} (q : wi σ H fun J H1 => ForR J g tb D σ H1) : tFor wi g tb D σ H := q
theorem i_lc {wi : TI} {g : TG} {tt : TT} {te : TE} {vs : List Nat} (q : wi σ H fun J H1 => LcR J g tt te vs σ H1 Q) : tLc wi g tt te vs σ H Q := q
theorem i_yes {R : Bool → Hp → Prop} (q : R true H) : tYes σ H R := q
theorem i_ite {c : Bool} {A B : Prop} (h1 : c = true → A) (h2 : c = false → B) : if c = true then A else B := by
  cases c with
  | true => rw [if_pos rfl]; exact h1 rfl
  | false => rw [if_neg Bool.false_ne_true]; exact h2 rfl
theorem i_iteT {A B : Prop} (h : A) : if true = true then A else B := by rw [if_pos rfl]; exact h
theorem i_iteF {A B : Prop} (h : B) : if false = true then A else B := by rw [if_neg Bool.false_ne_true]; exact h
/-- divmod, over a heap that is told by what it holds -/
def rDivmod : List V → Hp → VK → Prop := fun xs H Q => ∃ i j, xs = [.int i, .int j] ∧ CDivP i j ∧ NewR H (.tup [.int (i / j), .int (i % j)]) Q
theorem call_divmodN {X : Cx} : CallR X (.builtin "divmod") rDivmod := fun pins s σ H xs us Q I r ⟨i, j, e, c, q⟩ => call_divmodW pins s σ H xs us Q I r ⟨i, j, e, c, q⟩
theorem i_divmod {i j : Int} (c : CDivP i j) (q : NewR H (.tup [.int (i / j), .int (i % j)]) Q) : rDivmod [.int i, .int j] H Q := ⟨i, j, rfl, c, q⟩
theorem i_rCat {l b : Addr} {xs zs : List V} (h : H l = some (.lst xs)) (k : H b = some (.lst zs)) (z : xs.length + zs.length ≤ sizeLine) (q : NewR H (.lst (xs ++ zs)) Q) : rCat (.ref l) (.ref b) H Q := ⟨l, b, xs, zs, rfl, rfl, h, k, z, q⟩
def rCatS : R2 := fun x y H Q => ∃ i j, x = .str i ∧ y = .str j ∧ i.length + j.length ≤ sizeLine ∧ Q (.str (i ++ j)) H
theorem op_catS {X : Cx} : OpR X (binaryOp .Add) rCatS := op_add_str
theorem i_rCatS {i j : Str} (h : i.length + j.length ≤ sizeLine) (q : Q (.str (i ++ j)) H) : rCatS (.str i) (.str j) H Q := ⟨i, j, rfl, rfl, h, q⟩
def rJoin (K : PySem.W.Frag) : V → List V → Hp → VK → Prop := fun x xs H Q => ∃ a p, ∃ ys : List Str, x = .str a ∧ xs = [.ref p] ∧ (SqL K H p (ys.map V.str) ∨ SqT K H p (ys.map V.str)) ∧ (ys.map (·.length)).sum + ys.length * a.length ≤ 16777216 ∧ Q (.str (Txt.join a ys)) H
theorem pe_joinN {X : Cx} {o e : Expr} {to te : TE} {apos pos : Pos} (ho : PE X o to) (he : PE X e te) (hs : starEach [e] X.env = [(false, eval e X.env)] := by rfl) (hbase : attributeBase o "join" X.env (eval o X.env) = eval o X.env := by rfl) (hline : (apos.endLine == pos.line) = true := by rfl) :
    PE X (.Call (.Attribute o "join" apos) [e] [] pos) (tM1 (rJoin X.K) to te) := pe_join ho he hs hbase hline
theorem i_join {a : Str} {p : Addr} {ys : List Str} (h : SqL K H p (ys.map V.str)) (z : (ys.map (·.length)).sum + ys.length * a.length ≤ 16777216) (q : Q (.str (Txt.join a ys)) H) : rJoin K (.str a) [.ref p] H Q := ⟨a, p, ys, rfl, rfl, .inl h, z, q⟩
theorem i_exstr {x : Str} {R : Prop} (q : R) : (∃ a, V.str x = .str a) ∧ R := ⟨⟨x, rfl⟩, q⟩
end
end KX

namespace KX
open PySem PySem.Spec PyProof.Rows L2
/-! ### texts -/
def okS (x : Str) (n : Nat) : Prop := x.length ≤ n ∧ ∀ c ∈ x.cps.toList, c < 1114112
theorem okS.mono {x : Str} {n m : Nat} (h : okS x n) (k : n ≤ m) : okS x m := ⟨Nat.le_trans h.1 k, h.2⟩
theorem okS.app {x y : Str} {n m : Nat} (h : okS x n) (k : okS y m) : okS (x ++ y) (n + m) := by
  refine ⟨?_, fun c hc => ?_⟩
  · rw [Str.length_append]; have := h.1; have := k.1; omega
  · have e : (x ++ y).cps = x.cps ++ y.cps := rfl
    rw [e, Array.toList_append] at hc
    rcases List.mem_append.mp hc with hc | hc
    · exact h.2 c hc
    · exact k.2 c hc
theorem okS.cut {x : Str} {n : Nat} (h : okS x n) (lo hi : Option Int) : okS (cutS x lo hi) n := by
  refine ⟨?_, fun c hc => ?_⟩
  · have e : (cutS x lo hi).length = (cutS x lo hi).cps.toList.length := rfl
    have l : x.length = x.cps.toList.length := rfl
    rw [e]; unfold cutS
    show ((x.cps.toList.drop _).take _).length ≤ n
    rw [List.length_take, List.length_drop]
    have := h.1; omega
  · unfold cutS at hc
    exact h.2 c (List.mem_of_mem_drop (List.mem_of_mem_take hc))
theorem joinL_nil_len {b : Nat} : ∀ ps : List (List Nat), (∀ p ∈ ps, p.length ≤ b ∧ ∀ c ∈ p, c < 1114112) → (TL.joinL [] ps).length ≤ ps.length * b ∧ ∀ c ∈ TL.joinL [] ps, c < 1114112
  | [], _ => ⟨by simp [TL.joinL], by simp [TL.joinL]⟩
  | [p], h => by
    have := h p (by simp)
    simp only [TL.joinL, List.length_cons, List.length_nil]
    exact ⟨by omega, this.2⟩
  | p :: q :: r, h => by
    have h1 := h p (by simp)
    have ih := joinL_nil_len (q :: r) (fun x hx => h x (List.mem_cons_of_mem _ hx))
    simp only [TL.joinL, List.append_nil, List.nil_append, List.length_append, List.length_cons] at ih ⊢
    refine ⟨?_, fun c hc => ?_⟩
    · have e : (r.length + 1 + 1) * b = (r.length + 1) * b + b := by rw [Nat.add_mul (r.length + 1) 1 b, Nat.one_mul]
      omega
    · rcases List.mem_append.mp hc with hc | hc
      · exact h1.2 c hc
      · exact ih.2 c hc
theorem okS.joined {ys : List Str} {b : Nat} (h : ∀ y ∈ ys, okS y b) {s : Str} (hs : s.cps = #[]) : okS (Txt.join s ys) (ys.length * b) := by
  rw [TL.join_eq]
  have e := TL.tl_join s ys
  have e2 : TL.tl s = [] := by unfold TL.tl; rw [hs]
  rw [e2] at e
  have k := joinL_nil_len (b := b) (ys.map TL.tl) (fun p hp => by
    obtain ⟨y, hy, rfl⟩ := List.mem_map.mp hp
    exact ⟨(h y hy).1, (h y hy).2⟩)
  rw [← e, List.length_map] at k
  exact k
theorem okS.one {c : Nat} (h : c < 1114112) : okS ⟨#[c]⟩ 1 := ⟨Nat.le_refl _, fun d hd => by
  have : d = c := by simpa using hd
  rw [this]; exact h⟩
theorem okS.atI {x : Str} {n : Nat} (h : okS x n) {i : Int} {c : Nat} (e : atI x.cps.toList i = some c) : okS ⟨#[c]⟩ 1 := by
  unfold L2.atI at e
  cases q : ixN x.cps.toList.length i with
  | none => rw [q] at e; cases e
  | some j =>
    rw [q] at e
    exact okS.one (h.2 c (List.mem_of_getElem? e))
theorem okS.line {x : Str} {n : Nat} (h : okS x n) (k : n ≤ 16777216) : x.length ≤ sizeLine := by rw [sizeLine_eq]; exact Nat.le_trans h.1 k
/-! ### what is shown, bounded -/
theorem shown_str_le {x : Str} {n : Nat} (h : okS x n) : (PyData.str x).shown.length ≤ 10 * n + 2 := by
  simp only [PyData.shown]
  have := StrLaws.reprText_len x (fun c hc => Nat.lt_of_lt_of_le (h.2 c hc) (by decide))
  have := h.1; omega
theorem Shw.of_str {x : Str} {n : Nat} (h : okS x n) (k : n ≤ 100000) : Shw (.str x) := ⟨rfl, by simp [PyData.depth], by have := shown_str_le h; rw [sizeLine_eq]; omega⟩
theorem log2_lt_1920 {i : Int} {k : Nat} (h : i.natAbs < 2 ^ k) (hk : k ≤ 1920) (h0 : 0 < k) : i.natAbs.log2 < 1920 := by
  have := PySem.Flt.log2_lt_of h0 h
  omega
/-! ### kinds -/
def tyN : PyData → String
  | .none => "NoneType" | .bool _ => "bool" | .int _ => "int" | .str _ => "str" | .list _ => "list" | .tuple _ => "tuple" | .dict _ => "dict"
theorem DaF.ty {b : Bool} {K : PySem.W.Frag} {H : Hp} {v : V} {d : PyData} (h : DaF b K H v d) : TyX K H v (.type (tyN d)) := by
  cases h with
  | non => exact .base .non
  | bl b => exact .base (.bl b)
  | int i => exact .base (.int i)
  | str x => exact .base (.str x)
  | lst h _ _ =>
    rcases h with (h | ⟨o, h⟩) | ⟨o, its, n, h, hc, _⟩
    · exact .base (.lst h)
    · exact .base (.frz h)
    · exact .kList h hc
  | tup h _ =>
    rcases h with (h | ⟨o, h⟩) | ⟨o, its, n, h, hc, _⟩
    · exact .base (.tup h)
    · exact .fTuple h
    · exact .kTuple h hc
  | dic h _ =>
    rcases h with h | ⟨o, h⟩
    · exact .base (.dK h)
    · exact .fDict h
def isi (d : PyData) (T : String) : Bool := tyN d == T || (tyN d == "bool" && T == "int")
theorem kit_isi : ∀ (d : PyData) (T : String), T ∈ ["int", "bool", "str", "tuple", "list", "dict"] → kitB (tyN d) T = some (isi d T) := by
  intro d T h
  have all : ∀ a ∈ ["NoneType", "bool", "int", "str", "list", "tuple", "dict"], ∀ T ∈ ["int", "bool", "str", "tuple", "list", "dict"], kitB a T = some (a == T || (a == "bool" && T == "int")) := by decide +kernel
  exact all (tyN d) (by cases d <;> simp [tyN]) T h
def rIsiD (K : PySem.W.Frag) : List V → Hp → VK → Prop := fun xs H Q => ∃ b v d T, xs = [v, .ty T] ∧ DaF b K H v d ∧ T ∈ ["int", "bool", "str", "tuple", "list", "dict"] ∧ Q (.bl (isi d T)) H
theorem call_isiD {X : Cx} : CallR X (.builtin "isinstance") (rIsiD X.K) := by
  intro pins s σ H xs us Q I r h
  obtain ⟨_, v, d, T, rfl, hd, hT, q⟩ := h
  exact call_isi pins s σ H _ us Q I r ⟨v, .ty T, _, _, _, rfl, .ty T, hd.ty, kit_ty (kit_isi d T hT), q⟩
theorem i_isi {b : Bool} {K : PySem.W.Frag} {H : Hp} {Q : VK} {v : V} {d : PyData} {T : String} (h : DaF b K H v d) (hT : T ∈ ["int", "bool", "str", "tuple", "list", "dict"]) (q : Q (.bl (isi d T)) H) : rIsiD K [v, .ty T] H Q := ⟨b, v, d, T, rfl, h, hT, q⟩
/-! ### len -/
def rLen (K : PySem.W.Frag) : List V → Hp → VK → Prop := fun xs H Q => ∃ x n, xs = [x] ∧ LenV K x H n ∧ Q (.int n) H
theorem call_lenN {X : Cx} : CallR X (.builtin "len") (rLen X.K) := call_len
theorem i_lenS {K : PySem.W.Frag} {H : Hp} {Q : VK} {x : Str} (h : x.length ≤ sizeLine) (q : Q (.int x.length) H) : rLen K [.str x] H Q := ⟨_, _, rfl, ⟨h, rfl⟩, q⟩
theorem i_lenL {K : PySem.W.Frag} {H : Hp} {Q : VK} {p : Addr} {xs : List V} (h : SqL K H p xs) (q : Q (.int xs.length) H) : rLen K [.ref p] H Q := ⟨_, _, rfl, .inl ⟨_, h, rfl⟩, q⟩
theorem i_lenT {K : PySem.W.Frag} {H : Hp} {Q : VK} {p : Addr} {xs : List V} (h : SqT K H p xs) (q : Q (.int xs.length) H) : rLen K [.ref p] H Q := ⟨_, _, rfl, .inr ⟨_, h, rfl⟩, q⟩
/-! ### repr -/
def rRepr (K : PySem.W.Frag) : List V → Hp → VK → Prop := fun xs H Q => ∃ b v d, xs = [v] ∧ DaF b K H v d ∧ (b = true ∨ d.hasDict = false) ∧ Shw d ∧ Q (.str d.shown) H
theorem call_reprN {X : Cx} (hr : Rg 1 X.A) : CallR X (.builtin "repr") (rRepr X.K) := call_reprD hr
theorem i_repr {b : Bool} {K : PySem.W.Frag} {H : Hp} {Q : VK} {v : V} {d : PyData} (h : DaF b K H v d) (n : b = true ∨ d.hasDict = false) (w : Shw d) (q : Q (.str d.shown) H) : rRepr K [v] H Q := ⟨b, v, d, rfl, h, n, w, q⟩
/-! ### min, max, abs -/
theorem i_abs {H : Hp} {Q : VK} {i : Int} (q : Q (.int (if i < 0 then -i else i)) H) : ∃ j, [V.int i] = [.int j] ∧ Q (.int (if j < 0 then -j else j)) H := ⟨i, rfl, q⟩
theorem i_max {H : Hp} {Q : VK} {i j : Int} (q : Q (.int (if j > i then j else i)) H) : ∃ a b, [V.int i, V.int j] = [.int a, .int b] ∧ Q (.int (if b > a then b else a)) H := ⟨i, j, rfl, q⟩
theorem i_min {H : Hp} {Q : VK} {i j : Int} (q : Q (.int (if j < i then j else i)) H) : ∃ a b, [V.int i, V.int j] = [.int a, .int b] ∧ Q (.int (if b < a then b else a)) H := ⟨i, j, rfl, q⟩
/-! ### deep == -/
mutual
theorem DaF.dp {b : Bool} {K : PySem.W.Frag} {H : Hp} : ∀ {v : V} {d : PyData}, DaF b K H v d → d.hasDict = false → Dp K H v d
  | _, _, .non, _ => .non
  | _, _, .bl b, _ => .bl b
  | _, _, .int i, _ => .int i
  | _, _, .str x, _ => .str x
  | _, _, .lst h _ a, k => .lst h (DaAllF.dp a (by simpa [PyData.hasDict] using k))
  | _, _, .tup h a, k => .tup h (DaAllF.dp a (by simpa [PyData.hasDict] using k))
  | _, _, .dic h a, k => by simp [PyData.hasDict] at k
theorem DaAllF.dp {b : Bool} {K : PySem.W.Frag} {H : Hp} : ∀ {vs : List V} {ds : List PyData}, DaAllF b K H vs ds → PyData.hasDictAll ds = false → DpAll K H vs ds
  | _, _, .nil, _ => .nil
  | _, _, .cons a r, k => by
    simp only [PyData.hasDictAll, Bool.or_eq_false_iff] at k
    exact .cons (DaF.dp a k.1) (DaAllF.dp r k.2)
end
theorem strOk_of {x : Str} {n : Nat} (h : okS x n) : PyData.strOk x = true := by
  unfold PyData.strOk
  rw [Array.all_eq_true]
  intro i hi
  exact decide_eq_true (h.2 _ (by simp))
theorem i_eqD {b c : Bool} {K : PySem.W.Frag} {H : Hp} {Q : VK} {x y : V} {d e : PyData} (h : DaF b K H x d) (k : DaF c K H y e) (hd : d.hasDict = false) (he : e.hasDict = false) (sd : SeqAt.shaped d = true) (se : SeqAt.shaped e = true) (q : Q (.bl (PyData.eqv d e)) H) : rEqD K x y H Q :=
  ⟨d, e, h.dp hd, k.dp he, sd, se, q⟩
/-- a list of texts of one sign -/
def signsD (l : List Nat) : List PyData := l.map fun c => .str ⟨#[c]⟩
theorem da_signs {K : PySem.W.Frag} {H : Hp} : ∀ l : List Nat, DaAll K H (l.map fun c => V.str ⟨#[c]⟩) (signsD l)
  | [] => .nil
  | c :: l => .cons (.str _) (da_signs l)
theorem signs_hasDict : ∀ l : List Nat, PyData.hasDictAll (signsD l) = false
  | [] => rfl
  | c :: l => by show (PyData.hasDict (.str ⟨#[c]⟩) || PyData.hasDictAll (signsD l)) = false; rw [signs_hasDict l]; rfl
theorem signs_lay : ∀ l : List Nat, (∀ c ∈ l, c < 1114112) → PyData.canLayAll0 (signsD l) = true
  | [], _ => rfl
  | c :: l, h => by
    show (PyData.canLay0 (.str ⟨#[c]⟩) && PyData.canLayAll0 (signsD l)) = true
    rw [signs_lay l fun d hd => h d (List.mem_cons_of_mem _ hd)]
    have := h c List.mem_cons_self
    simp [PyData.canLay0, PyData.strOk, this]
theorem signs_depth : ∀ l : List Nat, PyData.depthAll (signsD l) ≤ 1
  | [] => by simp [signsD, PyData.depthAll]
  | c :: l => by
    have := signs_depth l
    simp only [signsD, List.map_cons, PyData.depthAll, PyData.depth] at this ⊢
    omega
theorem i_eqSigns {K : PySem.W.Frag} {H : Hp} {Q : VK} {a b : Addr} {l : List Nat} (h : H a = some (.lst (l.map fun c => V.str ⟨#[c]⟩))) (k : H b = some (.lst [])) (hl : ∀ c ∈ l, c < 1114112) (q : Q (.bl l.isEmpty) H) : rEqD K (.ref a) (.ref b) H Q := by
  refine i_eqD (b := false) (c := false) (Da.lst (.inl (.inl h)) (da_signs l)) (Da.lst (.inl (.inl k)) DaAllF.nil) (signs_hasDict l) rfl ?_ rfl ?_
  · unfold SeqAt.shaped
    have h1 : PyData.canLay0 (.list (signsD l)) = true := signs_lay l hl
    have h2 : PyData.depth (.list (signsD l)) ≤ 64 := by
      have := signs_depth l
      simp only [PyData.depth]
      omega
    rw [h1]
    simpa using h2
  · have e : PyData.eqv (.list (signsD l)) (.list []) = l.isEmpty := by
      cases l with
      | nil => rfl
      | cons c l => rfl
    rw [e]; exact q
/-! ### the law's numbers: a list of two ints that each draw turns -/
def Rok (H : Hp) (r : Addr) : Prop := ∃ a b : Int, H r = some (.lst [.int a, .int b]) ∧ 0 ≤ b ∧ b < 2147483588
theorem Rok.same {H H' : Hp} {r : Addr} (s : Same H H') (h : Rok H r) : Rok H' r := let ⟨a, b, e, k⟩ := h; ⟨a, b, s _ _ e, k⟩
theorem Rok.off {H H' : Hp} {r p : Addr} (s : Off p H H') (n : r ≠ p) (h : Rok H r) : Rok H' r := let ⟨a, b, e, k⟩ := h; ⟨a, b, s.get n e, k⟩
theorem Rok.ne {H : Hp} {r p : Addr} (h : Rok H r) (n : H p = none) : p ≠ r := let ⟨_, _, e, _⟩ := h; (ne_of_none e n).symm
/-- a comprehension whose element draws -/
theorem l_rng {J : It} {xs : List V} {G : Hp → Prop} (W : Wk J xs G) {g : TG} {te : TE} {vs : List Nat} {Q : VK} {σ : L2.St} {H1 : Hp} (r : Addr) (ok : Nat → V → Prop) (hlen : xs.length < sizeLine) (h0 : Rok H1 r) (hG : ∀ H', Off r H1 H' → G H')
    (hs : ∀ (i : Nat) x H' (R : VK), xs[i]? = some x → Off r H1 H' → Rok H' r → (∀ y H'', ok i y → Off r H' H'' → Rok H'' r → R y H'') → g x (wipe σ vs) H' fun σ2 H2 => wipe σ2 vs = wipe σ vs ∧ te σ2 H2 R)
    (q : ∀ D H' ys, H1 D = none → D ≠ r → Off r H1 H' → Rok H' r → H' D = some (.lst ys) → ys.length = xs.length → (∀ (i : Nat) y, ys[i]? = some y → ok i y) → Q (.ref D) H') : LcR J g tYes te vs σ H1 Q := by
  refine l_wk W fun D H0 n0 s0 e0 => ⟨fun i ys H => Off r H1 H ∧ Rok H r ∧ H D = some (.lst ys) ∧ ys.length = i ∧ ∀ (j : Nat) y, ys[j]? = some y → ok j y, ⟨.of_same s0, h0.same s0, e0, rfl, fun j y h => by simp at h⟩, fun i ys H h => hG _ h.1, fun i ys x H hx h => ?_, fun ys H h => ?_⟩
  · obtain ⟨o1, r1, e1, hl, hy⟩ := h
    have hi : i < xs.length := (List.getElem?_eq_some_iff.mp hx).1
    have hDr : D ≠ r := h0.ne n0
    let R : VK := fun y H4 => LcEl D (fun ys H => Off r H1 H ∧ Rok H r ∧ H D = some (.lst ys) ∧ ys.length = i + 1 ∧ ∀ (j : Nat) y, ys[j]? = some y → ok j y) y H4
    have e : (fun (σ2 : L2.St) H2 => wipe σ2 vs = wipe σ vs ∧ tYes σ2 H2 fun b H3 => if b = true then te σ2 H3 R else ∃ ys, Off r H1 H3 ∧ Rok H3 r ∧ H3 D = some (.lst ys) ∧ ys.length = i + 1 ∧ ∀ (j : Nat) y, ys[j]? = some y → ok j y) = fun σ2 H2 => wipe σ2 vs = wipe σ vs ∧ te σ2 H2 R := by
      funext σ2 H2
      show (_ ∧ if true = true then te σ2 H2 R else (∃ ys, Off r H1 H2 ∧ Rok H2 r ∧ H2 D = some (.lst ys) ∧ ys.length = i + 1 ∧ ∀ (j : Nat) y, ys[j]? = some y → ok j y)) = _
      rw [if_pos rfl]
    rw [e]
    refine hs i x H R hx o1 r1 fun y H'' hk o2 r2 => ?_
    refine i_lcEl (Off.get o2 hDr e1) (by omega) fun H5 o5 e5 => ⟨Off.thenF o5 n0 (Off.refl _ _) (o1.trans o2), r2.off o5 hDr.symm, e5, by simp [hl], fun j z hj => ?_⟩
    by_cases hlt : j < ys.length
    · rw [List.getElem?_append_left hlt] at hj
      exact hy j z hj
    · have hj' : j = i := by
        have := (List.getElem?_eq_some_iff.mp hj).1
        rw [List.length_append] at this
        simp at this
        omega
      subst hj'
      rw [← hl, List.getElem?_append_right (Nat.le_refl _)] at hj
      simp at hj
      rw [← hj]; exact hk
  · obtain ⟨o1, r1, e1, hl, hy⟩ := h
    exact q D H ys n0 (h0.ne n0) o1 r1 e1 hl hy
end KX

namespace KX
open PySem PySem.Spec PyProof.Rows L2
/-! ### what stands at one address stays -/
def Kp (a : Addr) (H H' : Hp) : Prop := ∀ o, H a = some o → H' a = some o
theorem Kp.refl {a : Addr} {H : Hp} : Kp a H H := fun _ e => e
theorem Kp.thenS {a : Addr} {H H1 H2 : Hp} (b : Same H1 H2) (k : Kp a H H1) : Kp a H H2 := fun o e => b _ _ (k o e)
theorem Kp.thenO {a p : Addr} {H H1 H2 : Hp} (b : Off p H1 H2) (n : a ≠ p) (k : Kp a H H1) : Kp a H H2 := fun o e => b _ _ n (k o e)
theorem Kp.get {a : Addr} {H H' : Hp} {o : HO} (h : H a = some o) (k : Kp a H H') : H' a = some o := k o h
theorem Rok.ne' {H : Hp} {r p : Addr} (n : H p = none) (h : Rok H r) : p ≠ r := h.ne n
theorem Rok.kp {H H' : Hp} {r : Addr} (h : Rok H r) (k : Kp r H H') : Rok H' r := let ⟨a, b, e, z⟩ := h; ⟨a, b, k _ e, z⟩
/-! ### data that may be shown and compared -/
structure OkD (d : PyData) : Prop where
  sh : Shw d
  st : ∀ x, d = .str x → okS x 16777216
def okdB (d : PyData) : Bool := d.showable && (decide (d.depth ≤ 20) && (decide (d.shown.length ≤ 16777216) && match d with
  | .str x => decide (x.length ≤ 16777216) && x.cps.toList.all fun c => decide (c < 1114112)
  | _ => true))
theorem okd_of {d : PyData} (h : okdB d = true) : OkD d := by
  unfold okdB at h
  simp only [Bool.and_eq_true, decide_eq_true_eq] at h
  obtain ⟨h1, h2, h3, h4⟩ := h
  refine ⟨⟨h1, h2, by rw [sizeLine_eq]; exact h3⟩, fun x e => ?_⟩
  subst e
  simp only [Bool.and_eq_true, decide_eq_true_eq, List.all_eq_true] at h4
  exact ⟨h4.1, h4.2⟩
theorem OkD.int {i : Int} (h : i.natAbs.log2 < 1920) : OkD (.int i) := ⟨⟨by simpa [PyData.showable] using h, by simp [PyData.depth], by rw [PyData.shown_int]; exact int_text_fits h⟩, fun x e => by cases e⟩
theorem OkD.str {x : Str} {n : Nat} (h : okS x n) (k : n ≤ 100000) : OkD (.str x) := ⟨Shw.of_str h k, fun y e => by cases e; exact h.mono (by omega)⟩
/-! ### the law's call from the top, where the frames' guards are told -/
section
variable {P : Program} {w : World} {K : PySem.W.Frag} {mg mb : Str → Option Value}
abbrev scrO (us : List Value) : Obj := { cls := .type "list", data := .seq us.toArray }
def scrH (K : PySem.W.Frag) (a : Addr) (us : List Value) (ns : List Int) : Hp := fun b =>
  if b = a ∧ K.lookup a = none then some (.frz (scrO us) (.lst (ns.map V.int))) else none
theorem scrH_or (K : PySem.W.Frag) (a : Addr) (us : List Value) (ns : List Int) (b : Addr) :
    scrH K a us ns b = none ∨ (b = a ∧ K.lookup a = none ∧ scrH K a us ns b = some (.frz (scrO us) (.lst (ns.map V.int)))) := by
  unfold scrH
  by_cases h : b = a ∧ K.lookup a = none
  · exact .inr ⟨h.1, h.2, if_pos h⟩
  · exact .inl (if_neg h)
/-- what the law's def promises, at the heap behind the top -/
theorem lawG {CX : CXT} {k : Nat} {fa a : Addr} {fd : FuncData} {x : Str} {sp : Sp} {t0 : Shared} {us : List Value} {ns : List Int} (inK : K.In t0.heap) (g1 : t0.heap.Ns mainGlobals mg) (g2 : t0.heap.Ns builtinsNs mb)
    (g3 : ∀ y : Str, y ≠ "__name__" → mb y = bootBuiltins y) (g4 : t0.heap.NoLimit) (g5 : t0.gens = #[]) (there : t0.heap.get? a = some (scrO us)) (hin : IntsAre us ns) (few : ns.length ≤ sizeLine) (room : Room k callerA)
    (G : ∀ b0 : Heap, K.In b0 → b0.Ns mainGlobals mg → Fg P w K mg b0 CX k fa fd [x] sp) (binds : ∀ (s : Shared) (u : Value), BindsTo s fd ⟨[u], []⟩ [(x, u)])
    (promise : ∀ H : Hp, SqL K H a (ns.map V.int) → sp [.ref a] H (fun v _ => v = .bl true) fun _ _ _ => False) (noX : ∀ H e s', CX [] H t0 (fun _ _ _ => False) e s' → False) :
    codeAny (model P w) callerA (.call (.ref fa) ⟨[.ref a], []⟩)
      (fun r s' => r = .ok (.ret (.bool true)) ∧ OldK t0.heap s'.heap ∧ s'.os = t0.os ∧ AllBare s'.gens) t0 := by
  have rel := vals_ints hin
  have off : ∀ {b : Addr} {o : Obj}, t0.heap.get? b = some o → (b = a → K.lookup a = none → False) → (hidT t0.heap (scrH K a us ns)).get? b = some o := fun {b o} e z => by
    refine hidT_get e ?_
    rcases scrH_or K a us ns b with h | ⟨h1, h2, _⟩
    · exact h
    · exact (z h1 h2).elim
  have dicts : ∀ {b : Addr} {o : Obj} {es : Array DictEntry} {ep : Nat}, t0.heap.get? b = some o → o.data = .dict es ep → b = a → False := fun {b o es ep} e d z => by
    rw [z, there] at e
    cases e
    cases (show Data.seq us.toArray _ = Data.dict es ep from d)
  have names : ∀ {b : Addr} {m : Str → Option Value}, t0.heap.Ns b m → (hidT t0.heap (scrH K a us ns)).Ns b m := fun {b m} ⟨o, es, ep, e, d, r⟩ => ⟨o, es, ep, off e (fun z _ => dicts e d z), d, r⟩
  have inB : K.In (hidT t0.heap (scrH K a us ns)) := fun b o e => off (inK b o e) fun z1 z2 => by
    rw [z1, z2] at e
    cases e
  have top : Mod K mg (hidT t0.heap (scrH K a us ns)) := ⟨inB, names g1, ⟨mb, names g2, g3⟩, let ⟨mc, h1, h2⟩ := g4; ⟨mc, names h1, h2⟩⟩
  have hok : HOk P w (scrH K a us ns) t0.heap := fun b u z => by
    rcases scrH_or K a us ns b with h | ⟨h1, _, h3⟩
    · rw [h] at z; cases z
    · rw [h3] at z
      cases z
      subst h1
      exact ⟨there, by rw [List.length_map]; exact few, us, _, rel, there⟩
  have env : Env0 P w K mg (hidT t0.heap (scrH K a us ns)) callerA [] t0 (scrH K a us ns) :=
    ⟨rfl, top, fun b o e => of_hidT e, Nat.le_of_eq (hidT_size _ _), trivial, fun b hb => (nomatch hb), hok, .of_eq g5⟩
  have seen : SqL K (scrH K a us ns) a (ns.map V.int) := by
    cases lk : K.lookup a with
    | none => exact .inl (.inr ⟨scrO us, if_pos ⟨rfl, lk⟩⟩)
    | some o =>
      have e := inK a o lk
      rw [there] at e
      cases e
      exact .inr ⟨_, us.toArray, _, lk, rfl, rfl, rfl, by rw [List.size_toArray, hin.length]; exact few, by simpa using rel⟩
  refine codeAny_mono ((G _ inB (names g1)).run callerA [] t0 (scrH K a us ns) ⟨[.ref a], []⟩ [.ref a] [.ref a] _ _ ⟨room, rfl⟩ env (binds t0 (.ref a)) (.cons rfl .nil) (promise _ seen)) fun r s' end_ => ?_
  match r, end_ with
  | .error e, end_ => exact (noX _ e s' end_).elim
  | .ok .next, end_ => exact False.elim end_
  | .ok .brk, end_ => exact False.elim end_
  | .ok .cont, end_ => exact False.elim end_
  | .ok (.ret u), ⟨v, H', os, bare, un, hok', r', q⟩ =>
    have q' : v = .bl true := q
    subst q'
    obtain rfl : u = Value.bool true := r'
    refine ⟨rfl, OldK.of_keep fun b o e => ?_, os, bare⟩
    rcases scrH_or K a us ns b with h | ⟨h1, h2, h3⟩
    · exact un.keep b o e h (fun z => (nomatch z)) (fun z => (nomatch z))
    · have z2 := un.frzs b _ _ h3
      obtain ⟨e1, _⟩ := hok b _ h3
      obtain ⟨e2, _⟩ := hok' b _ z2
      rw [e] at e1
      cases e1
      exact e2
theorem walkG {l : PySem.W.OpenLaw} {n k : Nat} {q : Program} {loose : List Str} {XP : (Str → Option Value) → Heap → Prop} {YP : World → Heap → Prop} {d : DefRec} {K : Params → PySem.W.Frag} {CX : World → CXT} {sp : World → Sp} {x : Str} (most : l.most = some n) (few : n ≤ sizeLine)
    (plain : d.params.defaults = []) (room : Room k callerA) (inK : ∀ (w : World) (h : Heap), YP w h → (K w.params).In h)
    (G : ∀ (w : World) (mg : Str → Option Value) (fa : Addr) (h : Heap), (K w.params).In h → h.Ns mainGlobals mg → mg d.name = some (.ref fa) → ∃ fd : FuncData,
      (∀ (s : Shared) (u : Value), BindsTo s fd ⟨[u], []⟩ [(x, u)]) ∧ ∀ b0 : Heap, (K w.params).In b0 → b0.Ns mainGlobals mg → Fg l.prog w (K w.params) mg b0 (CX w) k fa fd [x] (sp w))
    (promise : ∀ (w : World) (H : Hp) (a : Addr) (ns : List Int), ns.length ≤ n → (∀ z ∈ ns, Builtin.Int.intBits z ≤ 1048576) → SqL (K w.params) H a (ns.map V.int) → sp w [.ref a] H (fun v _ => v = .bl true) fun _ _ _ => False)
    (noX : ∀ (w : World) (H : Hp) (s : Shared) (e : Value) (s' : Shared), CX w [] H s (fun _ _ _ => False) e s' → False) :
    PySem.W.WalkO q loose XP YP l.row.toRowW d [] (fun f vs => PySem.call f vs) := by
  refine Att.attach_callB most plain fun w _ t0 mg mb fa _ _ _ _ a us ns gr y _ _ _ at_ there hin len bits gens => ?_
  obtain ⟨fd, binds, hF⟩ := G w mg fa _ (inK w _ y) gr.T.g at_
  exact lawG (inK w _ y) gr.T.g gr.T.b gr.T.builtins gr.T.nolimit gens there hin (Nat.le_trans len few) room hF binds (fun H seen => promise w H a ns len bits seen) fun H e s' => noX w H t0 e s'
end
end KX

namespace KX
open PySem PySem.Spec PyProof.Rows L2
/-! ### the heap without one address, and the part that is new -/
def wo (r : Addr) (H : Hp) : Hp := fun b => if b = r then none else H b
theorem wo_get {r b : Addr} {H : Hp} (n : b ≠ r) : wo r H b = H b := if_neg n
theorem wo_same {r : Addr} {H : Hp} : Same (wo r H) H := fun b o e => by
  by_cases h : b = r
  · have e' : wo r H b = none := if_pos h
    rw [e'] at e; cases e
  · rwa [wo_get h] at e
theorem Off.wo {r : Addr} {H H' : Hp} (s : Off r H H') : Same (KX.wo r H) (KX.wo r H') := fun b o e => by
  by_cases h : b = r
  · have e' : KX.wo r H b = none := if_pos h
    rw [e'] at e; cases e
  · rw [wo_get h] at e ⊢
    exact s _ _ h e
theorem Same.wo {r : Addr} {H H' : Hp} (s : Same H H') : Same (KX.wo r H) (KX.wo r H') := Off.wo (.of_same s)
def newP (H H' : Hp) : Hp := fun b => if H b = none then H' b else none
theorem newP_same {H H' : Hp} : Same (newP H H') H' := fun b o e => by
  unfold newP at e
  split at e
  · exact e
  · cases e
theorem newP_get {H H' : Hp} {b : Addr} (h : H b = none) : newP H H' b = H' b := if_pos h
theorem newP_mono {H H1 H2 : Hp} (s : Same H1 H2) : Same (newP H H1) (newP H H2) := fun b o e => by
  unfold newP at e ⊢
  split at e
  · next h => rw [if_pos h]; exact s _ _ e
  · cases e
theorem none_of {H H1 : Hp} (s : Same H H1) {b : Addr} (h : H1 b = none) : H b = none := by
  cases e : H b with
  | none => rfl
  | some o => rw [s _ _ e] at h; cases h
theorem newP_back {H H1 H2 : Hp} (s : Same H H1) : Same (newP H1 H2) (newP H H2) := fun b o e => by
  unfold newP at e ⊢
  split at e
  · next h => rw [if_pos (none_of s h)]; exact e
  · cases e
theorem newP_wo {H H' : Hp} {r : Addr} {o : HO} (h : H r = some o) : Same (newP H H') (wo r H') := fun b u e => by
  unfold newP at e
  split at e
  · next z => rw [wo_get (fun q => by rw [q, h] at z; cases z)]; exact e
  · cases e
theorem DaAllF.len {b : Bool} {K : PySem.W.Frag} {H : Hp} : ∀ {vs : List V} {ds : List PyData}, DaAllF b K H vs ds → vs.length = ds.length
  | _, _, .nil => rfl
  | _, _, .cons _ r => congrArg (· + 1) (DaAllF.len r)
theorem DaAllF.mem {b : Bool} {K : PySem.W.Frag} {H : Hp} : ∀ {vs : List V} {ds : List PyData}, DaAllF b K H vs ds → ∀ v ∈ vs, ∃ d ∈ ds, DaF b K H v d
  | _, _, .nil, _, h => (nomatch h)
  | _, _, .cons a r, v, h => by
    rcases List.mem_cons.mp h with e | h
    · subst e; exact ⟨_, List.mem_cons_self, a⟩
    · obtain ⟨d, hd, k⟩ := DaAllF.mem r v h
      exact ⟨d, List.mem_cons_of_mem _ hd, k⟩
theorem DaAllF.app {b : Bool} {K : PySem.W.Frag} {H : Hp} : ∀ {vs us : List V} {ds es : List PyData}, DaAllF b K H vs ds → DaAllF b K H us es → DaAllF b K H (vs ++ us) (ds ++ es)
  | _, _, _, _, .nil, k => k
  | _, _, _, _, .cons a r, k => .cons a (DaAllF.app r k)
theorem okd_all {ds : List PyData} (h : ds.all okdB = true) {d : PyData} (k : d ∈ ds) : OkD d := okd_of (List.all_eq_true.mp h d k)
/-! ### written data -/
mutual
inductive Lit : Expr → PyData → Prop
  | non {j p} : Lit (.Constant .none j p) .none
  | bl {b j p} : Lit (.Constant (.bool b) j p) (.bool b)
  | int {i j p} : Lit (.Constant (.int i) j p) (.int i)
  | str {x j p} : Lit (.Constant (.str x) j p) (.str x)
  | neg {i j p p'} : Lit (.UnaryOp .USub (.Constant (.int i) j p) p') (.int (-i))
  | lst {es ds p} : LitAll es ds → ds.length ≤ 1000 → Lit (.List es p) (.list ds)
  | tup {es ds x p} : LitAll es ds → ds.length ≤ 1000 → Lit (.Tuple es x p) (.tuple ds)
  | dic0 {p} : Lit (.Dict [] [] p) (.dict [])
  | dicI {i j q v d p} : Lit v d → Lit (.Dict [some (.Constant (.int i) j q)] [v] p) (.dict [(.int i, d)])
  | dicS {x j q v d p} : Lit v d → Lit (.Dict [some (.Constant (.str x) j q)] [v] p) (.dict [(.str x, d)])
inductive LitAll : List Expr → List PyData → Prop
  | nil : LitAll [] []
  | cons {e es d ds} : Lit e d → LitAll es ds → LitAll (e :: es) (d :: ds)
end
theorem Lit.star {e : Expr} {d : PyData} (h : Lit e d) (es : List Expr) (env : Env) : starEach (e :: es) env = (false, eval e env) :: starEach es env := by
  cases h <;> rfl
/-- a list display: its address is told to be none of the run's own -/
def tLstN (t : TA) : TE := fun σ H Q => t σ H fun xs H1 => xs.length ≤ sizeLine ∧ ∀ p, H1 p = none → p ≠ sysModules → Q (.ref p) (upd H1 p (.lst xs))
theorem pe_lstN {X : Cx} {es : List Expr} {t : TA} {pos : Pos} (h : PA X es t) : PE X (.List es pos) (tLstN t) :=
  ⟨fun pins s σ H Q I hq => wpAny_List_spliced (thn (h.run pos pins s σ H _ I hq) fun us t1 ⟨xs, H1, J, r, z, q⟩ => by
    have free : H1 t1.heap.objs.size = none := J.hok.fresh (Nat.le_refl _)
    refine ⟨by rw [← r.length]; exact z, .ref t1.heap.objs.size, L2.upd H1 t1.heap.objs.size (.lst xs), J.laid (t' := t1.toks) (fun b u e => Heap.get?_push_of_some _ e) (Nat.le_refl _) ?_, rfl, q _ free (Nat.ne_of_gt J.big)⟩
    exact ⟨z, us, 0, r, Heap.get?_push_size _ rfl⟩)⟩
def NewN (H : Hp) (o : HO) (Q : VK) : Prop := ∀ p, H p = none → p ≠ sysModules → Q (.ref p) (L2.upd H p o)
theorem i_newN {H : Hp} {o : HO} {Q : VK} (q : ∀ p H', H p = none → p ≠ sysModules → Same H H' → H' p = some o → Q (.ref p) H') : NewN H o Q := fun p hp hn => q p _ hp hn (same_new hp) upd_same
theorem i_lstN {t : TA} {σ : L2.St} {H : Hp} {Q : VK} (q : t σ H fun xs H1 => xs.length ≤ sizeLine ∧ NewN H1 (.lst xs) Q) : tLstN t σ H Q := q
def tLit (K : PySem.W.Frag) (d : PyData) : TE := fun _ H Q => ∀ v H', Same H H' → DaS K (newP H H') v d → Q v H'
def tLits (K : PySem.W.Frag) (ds : List PyData) : TA := fun _ H Q => ∀ vs H', Same H H' → DaAllS K (newP H H') vs ds → Q vs H'
def tLitL (K : PySem.W.Frag) (ds : List PyData) : TE := fun _ H Q => ∀ p xs H', H p = none → p ≠ sysModules → Same H H' → H' p = some (.lst xs) → DaAllS K (newP H H') xs ds → Q (.ref p) H'
theorem _root_.L2.PE.imp {X : Cx} {e : Expr} {t u : TE} (h : PE X e t) (k : ∀ σ H Q, u σ H Q → t σ H Q) : PE X e u := ⟨fun pins s σ H Q I q => h.run pins s σ H Q I (k _ _ _ q)⟩
theorem _root_.L2.PA.imp {X : Cx} {es : List Expr} {t u : TA} (h : PA X es t) (k : ∀ σ H Q, u σ H Q → t σ H Q) : PA X es u := ⟨fun pos pins s σ H Q I q => h.run pos pins s σ H Q I (k _ _ _ q)⟩
theorem one_dict {H : Hp} {p : Addr} {k : Key} {v : V} {K : PySem.W.Frag} {H1 H2 : Hp} {d : PyData} (hp : H p = none) (s1 : Same (upd H p (.dK [])) H1) (hd : DaS K (newP (upd H p (.dK [])) H1) v d) (e : H2 = upd H1 p (.dK [(k, v)])) :
    Same H H2 ∧ DaS K (newP H H2) (.ref p) (.dict [(keyD k, d)]) := by
  subst e
  have h1 : H1 p = some (.dK []) := s1 _ _ upd_same
  have sH : Same H H1 := (same_new hp).trans s1
  have sn : Same (newP (upd H p (.dK [])) H1) (newP H (upd H1 p (.dK [(k, v)]))) := fun b o e => by
    unfold newP at e ⊢
    split at e
    · next h =>
      have nb : b ≠ p := fun z => by rw [z, upd_same] at h; cases h
      rw [upd_ne nb] at h
      rw [if_pos h, upd_ne nb]; exact e
    · cases e
  refine ⟨fun b o e => ?_, .dic (kvs := [(k, v)]) (Rd.of ?_) (.cons (hd.same sn) .nil)⟩
  · have nb : b ≠ p := fun z => by rw [z, hp] at e; cases e
    rw [upd_ne nb]; exact sH _ _ e
  · rw [newP_get hp, upd_same]
mutual
theorem Lit.pe {X : Cx} : ∀ {e : Expr} {d : PyData}, Lit e d → PE X e (tLit X.K d)
  | _, _, .non => pe_non.imp fun σ H Q q => q _ _ (Same.refl _) .non
  | _, _, .bl => pe_bl.imp fun σ H Q q => q _ _ (Same.refl _) (.bl _)
  | _, _, .int => pe_int.imp fun σ H Q q => q _ _ (Same.refl _) (.int _)
  | _, _, .str => pe_str.imp fun σ H Q q => q _ _ (Same.refl _) (.str _)
  | _, _, .neg => (pe_un un_neg pe_int).imp fun σ H Q q => ⟨_, rfl, q _ _ (Same.refl _) (.int _)⟩
  | _, _, .lst h l => (pe_lstN h.pa).imp fun σ H Q q vs H1 s1 hd => ⟨by rw [hd.len, sizeLine_eq]; exact Nat.le_trans l (by decide), fun p hp hn =>
      q _ _ (s1.trans (same_new hp)) (.lst (SqL.of (by rw [newP_get (none_of s1 hp), upd_same])) (fun _ => hn) (hd.same (newP_mono (same_new hp))))⟩
  | _, _, .tup h l => (pe_tup h.pa).imp fun σ H Q q vs H1 s1 hd => ⟨by rw [hd.len, sizeLine_eq]; exact Nat.le_trans l (by decide), fun p hp =>
      q _ _ (s1.trans (same_new hp)) (.tup (SqT.of (by rw [newP_get (none_of s1 hp), upd_same])) (hd.same (newP_mono (same_new hp))))⟩
  | _, _, .dic0 => pe_dnewK.imp fun σ H Q q p hp => q _ _ (same_new hp) (.dic (Rd.of (by rw [newP_get hp, upd_same])) .nil)
  | _, _, .dicI h => (pe_disp (pps_cons pe_int h.pe pps_nil) (by rfl) (by rfl) (fun z => by cases z) (by show 1 ≤ 15; decide)).imp fun σ H Q q p hp v H1 s1 hd => by
      obtain ⟨a, b⟩ := one_dict (k := .inl _) hp s1 hd rfl
      exact ⟨s1 _ _ upd_same, [(.inl _, v)], rfl, (by show 1 ≤ 15; decide), q _ _ a b⟩
  | _, _, .dicS h => (pe_disp (pps_cons pe_str h.pe pps_nil) (by rfl) (by rfl) (fun z => by cases z) (by show 1 ≤ 15; decide)).imp fun σ H Q q p hp v H1 s1 hd => by
      obtain ⟨a, b⟩ := one_dict (k := .inr _) hp s1 hd rfl
      exact ⟨s1 _ _ upd_same, [(.inr _, v)], rfl, (by show 1 ≤ 15; decide), q _ _ a b⟩
theorem LitAll.pa {X : Cx} : ∀ {es : List Expr} {ds : List PyData}, LitAll es ds → PA X es (tLits X.K ds)
  | _, _, .nil => pa_nil.imp fun σ H Q q => q _ _ (Same.refl _) .nil
  | _, _, .cons h t => (pa_cons h.pe t.pa (h.star _ _)).imp fun σ H Q q v H1 s1 hd vs H2 s2 hds =>
      q _ _ (s1.trans s2) (.cons (hd.same (newP_mono s2)) (hds.same (newP_back s1)))
end
theorem pe_litL {X : Cx} {es : List Expr} {ds : List PyData} {p : Pos} (h : LitAll es ds) (l : ds.length ≤ 1000) : PE X (.List es p) (tLitL X.K ds) :=
  (pe_lstN h.pa).imp fun σ H Q q vs H1 s1 hd => ⟨by rw [hd.len, sizeLine_eq]; exact Nat.le_trans l (by decide), fun p hp hn =>
    q _ _ _ (none_of s1 hp) hn (s1.trans (same_new hp)) upd_same (hd.same (newP_mono (same_new hp)))⟩
theorem i_lit {K : PySem.W.Frag} {d : PyData} {σ : L2.St} {H : Hp} {Q : VK} (q : ∀ v H', Same H H' → DaS K (newP H H') v d → Q v H') : tLit K d σ H Q := q
theorem i_litL {K : PySem.W.Frag} {ds : List PyData} {σ : L2.St} {H : Hp} {Q : VK} (q : ∀ p xs H', H p = none → p ≠ sysModules → Same H H' → H' p = some (.lst xs) → DaAllS K (newP H H') xs ds → Q (.ref p) H') : tLitL K ds σ H Q := q
/-! ### bounds on what is shown -/
theorem i_rEqSame {H : Hp} {Q : VK} {x : V} (h : scal x x = true) (q : Q (.bl true) H) : rEq x x H Q := ⟨h, by rw [decide_eq_true (rfl : x = x)]; exact q⟩
theorem i_rNeSame {H : Hp} {Q : VK} {x : V} (h : scal x x = true) (q : Q (.bl false) H) : rNe x x H Q := ⟨h, by rw [decide_eq_true (rfl : x = x)]; exact q⟩
structure Sh (d : PyData) (n k : Nat) : Prop where
  ok : d.showable = true
  dp : d.depth ≤ k
  ln : d.shown.length ≤ n
theorem Sh.mono {d : PyData} {n k n' k' : Nat} (h : Sh d n k) (a : n ≤ n') (b : k ≤ k') : Sh d n' k' := ⟨h.ok, Nat.le_trans h.dp b, Nat.le_trans h.ln a⟩
theorem Sh.shw {d : PyData} {n k : Nat} (h : Sh d n k) (a : n ≤ 16777216) (b : k ≤ 20) : Shw d := ⟨h.ok, Nat.le_trans h.dp b, by rw [sizeLine_eq]; exact Nat.le_trans h.ln a⟩
theorem join_le (sep : Str) {n : Nat} : ∀ ts : List Str, (∀ t ∈ ts, t.length ≤ n) → (Str.join sep ts).length ≤ ts.length * (n + sep.length)
  | [], _ => by show 0 ≤ _; omega
  | [x], h => by
    have := h x (by simp)
    show x.length ≤ 1 * (n + sep.length)
    omega
  | x :: y :: r, h => by
    have h1 := h x (by simp)
    have ih := join_le sep (y :: r) (fun t ht => h t (List.mem_cons_of_mem _ ht))
    show (x ++ sep ++ Str.join sep (y :: r)).length ≤ _
    rw [Str.length_append, Str.length_append]
    have e : (x :: y :: r).length * (n + sep.length) = (y :: r).length * (n + sep.length) + (n + sep.length) := by
      rw [List.length_cons, Nat.add_mul, Nat.one_mul]
    omega
theorem shownAll_mem : ∀ {ds : List PyData} {t : Str}, t ∈ PyData.shownAll ds → ∃ d ∈ ds, d.shown = t
  | [], t, h => by rw [PyData.shownAll_nil] at h; cases h
  | d :: ds, t, h => by
    rw [PyData.shownAll_cons] at h
    rcases List.mem_cons.mp h with e | h
    · exact ⟨d, List.mem_cons_self, e.symm⟩
    · obtain ⟨e, he, k⟩ := shownAll_mem h
      exact ⟨e, List.mem_cons_of_mem _ he, k⟩
theorem depthAll_le {k : Nat} : ∀ {ds : List PyData}, (∀ d ∈ ds, d.depth ≤ k) → PyData.depthAll ds ≤ k
  | [], _ => by simp [PyData.depthAll]
  | d :: ds, h => by
    have h1 := h d List.mem_cons_self
    have h2 := depthAll_le (ds := ds) fun e he => h e (List.mem_cons_of_mem _ he)
    simp only [PyData.depthAll]
    omega
theorem Sh.lst {ds : List PyData} {n k : Nat} (h : ∀ d ∈ ds, Sh d n k) : Sh (.list ds) (ds.length * (n + 2) + 2) (k + 1) := by
  refine ⟨by simp only [PyData.showable]; exact showableAll_of fun d hd => (h d hd).ok, ?_, ?_⟩
  · have := depthAll_le fun d hd => (h d hd).dp
    simp only [PyData.depth]; omega
  · rw [PyData.shown_list, Str.length_append, Str.length_append]
    have := join_le (", " : Str) (n := n) (PyData.shownAll ds) fun t ht => by
      obtain ⟨d, hd, e⟩ := shownAll_mem ht
      rw [← e]; exact (h d hd).ln
    rw [PyData.shownAll_length] at this
    have e1 : ("[" : Str).length = 1 := by decide +kernel
    have e2 : ("]" : Str).length = 1 := by decide +kernel
    have e3 : (", " : Str).length = 2 := by decide +kernel
    rw [e3] at this
    omega
theorem Sh.tup {ds : List PyData} {n k : Nat} (h : ∀ d ∈ ds, Sh d n k) : Sh (.tuple ds) (ds.length * (n + 2) + 3) (k + 1) := by
  refine ⟨by simp only [PyData.showable]; exact showableAll_of fun d hd => (h d hd).ok, ?_, ?_⟩
  · have := depthAll_le fun d hd => (h d hd).dp
    simp only [PyData.depth]; omega
  · rw [PyData.shown_tuple, Str.length_append, Str.length_append]
    have := join_le (", " : Str) (n := n) (PyData.shownAll ds) fun t ht => by
      obtain ⟨d, hd, e⟩ := shownAll_mem ht
      rw [← e]; exact (h d hd).ln
    rw [PyData.shownAll_length] at this
    have e1 : ("(" : Str).length = 1 := by decide +kernel
    have e3 : (", " : Str).length = 2 := by decide +kernel
    have e2 : (((if (ds.length == 1) = true then ",)" else ")" : String) : Str)).length ≤ 2 := by
      split <;> decide +kernel
    rw [e3] at this
    omega
theorem Sh.bl {b : Bool} : Sh (.bool b) 5 0 := by cases b <;> exact ⟨by decide +kernel, by decide +kernel, by decide +kernel⟩
theorem Sh.non : Sh .none 4 0 := ⟨by decide +kernel, by decide +kernel, by decide +kernel⟩
theorem Sh.int {i : Int} (h : i.natAbs.log2 < 1920) : Sh (.int i) 1921 0 := ⟨by simpa [PyData.showable] using h, by simp [PyData.depth], by rw [PyData.shown_int]; exact int_text_len_1921 h⟩
theorem Sh.str {x : Str} {n : Nat} (h : okS x n) : Sh (.str x) (10 * n + 2) 0 := ⟨rfl, by simp [PyData.depth], shown_str_le h⟩
theorem shw_b2 (a b : Bool) : Shw (.list [.bool a, .bool b]) := (Sh.lst (ds := [.bool a, .bool b]) (n := 5) (k := 0) fun d hd => by
  simp only [List.mem_cons, List.not_mem_nil, or_false] at hd
  rcases hd with rfl | rfl <;> exact Sh.bl).shw (by show 2 * 7 + 2 ≤ _; decide) (by decide)
end KX

namespace KX
open PySem PySem.Spec PyProof.Rows L2
def topS (i : Nat) : Stmt := PySem.Challenge.pw_groupsteps_k11_names_and_versions.main.body.getD i (.Pass ⟨0, 0, 0, 0⟩)
abbrev s_is_integer : Stmt := topS 3
abbrev s_is_name : Stmt := topS 4
abbrev s_is_version : Stmt := topS 5
abbrev s_l_rng : Stmt := topS 7
abbrev s_l_draw : Stmt := topS 8
abbrev s_l_choice : Stmt := topS 9
abbrev s_l_is_name : Stmt := topS 10
abbrev s_l_is_version : Stmt := topS 11
abbrev s_l_text : Stmt := topS 12
abbrev s_l_number : Stmt := topS 13
abbrev s_l_odd : Stmt := topS 14
abbrev s_l_right : Stmt := topS 15
abbrev s_law : Stmt := topS 16
theorem sc_is_integer : FnScope ["value"] ["value"] (defScope s_is_integer) := ⟨rfl, rfl, rfl, by decide +kernel, rfl, by decide +kernel, by decide +kernel⟩
theorem sc_is_name : FnScope ["value", "letter"] ["value"] (defScope s_is_name) := ⟨rfl, rfl, rfl, by decide +kernel, rfl, by decide +kernel, by decide +kernel⟩
theorem sc_is_version : FnScope ["value"] ["value"] (defScope s_is_version) := ⟨rfl, rfl, rfl, by decide +kernel, rfl, by decide +kernel, by decide +kernel⟩
theorem sc_l_rng : FnScope ["_law_script", "_law_k", "_law_cell"] ["_law_script", "_law_k"] (defScope s_l_rng) := ⟨rfl, rfl, rfl, by decide +kernel, rfl, by decide +kernel, by decide +kernel⟩
theorem sc_l_draw : FnScope ["_law_rng_here", "_law_many", "_law_digit"] ["_law_rng_here", "_law_many"] (defScope s_l_draw) := ⟨rfl, rfl, rfl, by decide +kernel, rfl, by decide +kernel, by decide +kernel⟩
theorem sc_l_choice : FnScope ["_law_rng_here", "_law_options"] ["_law_rng_here", "_law_options"] (defScope s_l_choice) := ⟨rfl, rfl, rfl, by decide +kernel, rfl, by decide +kernel, by decide +kernel⟩
theorem sc_l_is_name : FnScope ["_law_value", "_law_sign"] ["_law_value"] (defScope s_l_is_name) := ⟨rfl, rfl, rfl, by decide +kernel, rfl, by decide +kernel, by decide +kernel⟩
theorem sc_l_is_version : FnScope ["_law_value"] ["_law_value"] (defScope s_l_is_version) := ⟨rfl, rfl, rfl, by decide +kernel, rfl, by decide +kernel, by decide +kernel⟩
theorem sc_l_text : FnScope ["_law_rng_here", "_law_letters", "_law_found", "_law_at", "_law_sign", "_law_k"] ["_law_rng_here"] (defScope s_l_text) := ⟨rfl, rfl, rfl, by decide +kernel, rfl, by decide +kernel, by decide +kernel⟩
theorem sc_l_number : FnScope ["_law_rng_here", "_law_found"] ["_law_rng_here"] (defScope s_l_number) := ⟨rfl, rfl, rfl, by decide +kernel, rfl, by decide +kernel, by decide +kernel⟩
theorem sc_l_odd : FnScope ["_law_rng_here", "_law_some"] ["_law_rng_here"] (defScope s_l_odd) := ⟨rfl, rfl, rfl, by decide +kernel, rfl, by decide +kernel, by decide +kernel⟩
theorem sc_l_right : FnScope ["_law_value", "_law_kept", "_law_due", "_law_turn"] ["_law_value"] (defScope s_l_right) := ⟨rfl, rfl, rfl, by decide +kernel, rfl, by decide +kernel, by decide +kernel⟩
theorem sc_law : FnScope ["_law_script", "_law_k", "_law_rng_here", "_law_turn", "_law_some", "_law_value"] ["_law_script"] (defScope s_law) := ⟨rfl, rfl, rfl, by decide +kernel, rfl, by decide +kernel, by decide +kernel⟩
/-- where the defs stand -/
structure Ad where
  f_is_integer : Addr
  d_is_integer : FuncData
  f_is_name : Addr
  d_is_name : FuncData
  f_is_version : Addr
  d_is_version : FuncData
  f_l_rng : Addr
  d_l_rng : FuncData
  f_l_draw : Addr
  d_l_draw : FuncData
  f_l_choice : Addr
  d_l_choice : FuncData
  f_l_is_name : Addr
  d_l_is_name : FuncData
  f_l_is_version : Addr
  d_l_is_version : FuncData
  f_l_text : Addr
  d_l_text : FuncData
  f_l_number : Addr
  d_l_number : FuncData
  f_l_odd : Addr
  d_l_odd : FuncData
  f_l_right : Addr
  d_l_right : FuncData
  f_law : Addr
  d_law : FuncData
  t_LETTERS : Tok
  t_MAX_LETTERS : Tok
/-- what the top has left -/
structure Txt (K : PySem.W.Frag) (mg : Str → Option Value) (A : Ad) : Prop where
  F_is_integer : Fun K "is_integer" "is_integer" s_is_integer A.f_is_integer A.d_is_integer
  g_is_integer : mg "is_integer" = some (.ref A.f_is_integer)
  b_is_integer : Binds K A.d_is_integer ["value"] []
  F_is_name : Fun K "is_name" "is_name" s_is_name A.f_is_name A.d_is_name
  g_is_name : mg "is_name" = some (.ref A.f_is_name)
  b_is_name : Binds K A.d_is_name ["value"] []
  F_is_version : Fun K "is_version" "is_version" s_is_version A.f_is_version A.d_is_version
  g_is_version : mg "is_version" = some (.ref A.f_is_version)
  b_is_version : Binds K A.d_is_version ["value"] []
  F_l_rng : Fun K "_law_rng" "_law_rng" s_l_rng A.f_l_rng A.d_l_rng
  g_l_rng : mg "_law_rng" = some (.ref A.f_l_rng)
  b_l_rng : Binds K A.d_l_rng ["_law_script", "_law_k"] []
  F_l_draw : Fun K "_law_draw" "_law_draw" s_l_draw A.f_l_draw A.d_l_draw
  g_l_draw : mg "_law_draw" = some (.ref A.f_l_draw)
  b_l_draw : Binds K A.d_l_draw ["_law_rng_here", "_law_many"] []
  F_l_choice : Fun K "_law_choice" "_law_choice" s_l_choice A.f_l_choice A.d_l_choice
  g_l_choice : mg "_law_choice" = some (.ref A.f_l_choice)
  b_l_choice : Binds K A.d_l_choice ["_law_rng_here", "_law_options"] []
  F_l_is_name : Fun K "_law_is_name" "_law_is_name" s_l_is_name A.f_l_is_name A.d_l_is_name
  g_l_is_name : mg "_law_is_name" = some (.ref A.f_l_is_name)
  b_l_is_name : Binds K A.d_l_is_name ["_law_value"] []
  F_l_is_version : Fun K "_law_is_version" "_law_is_version" s_l_is_version A.f_l_is_version A.d_l_is_version
  g_l_is_version : mg "_law_is_version" = some (.ref A.f_l_is_version)
  b_l_is_version : Binds K A.d_l_is_version ["_law_value"] []
  F_l_text : Fun K "_law_text" "_law_text" s_l_text A.f_l_text A.d_l_text
  g_l_text : mg "_law_text" = some (.ref A.f_l_text)
  b_l_text : Binds K A.d_l_text ["_law_rng_here"] []
  F_l_number : Fun K "_law_number" "_law_number" s_l_number A.f_l_number A.d_l_number
  g_l_number : mg "_law_number" = some (.ref A.f_l_number)
  b_l_number : Binds K A.d_l_number ["_law_rng_here"] []
  F_l_odd : Fun K "_law_odd" "_law_odd" s_l_odd A.f_l_odd A.d_l_odd
  g_l_odd : mg "_law_odd" = some (.ref A.f_l_odd)
  b_l_odd : Binds K A.d_l_odd ["_law_rng_here"] []
  F_l_right : Fun K "_law_right" "_law_right" s_l_right A.f_l_right A.d_l_right
  g_l_right : mg "_law_right" = some (.ref A.f_l_right)
  b_l_right : Binds K A.d_l_right ["_law_value"] []
  F_law : Fun K "law" "law" s_law A.f_law A.d_law
  g_law : mg "law" = some (.ref A.f_law)
  b_law : Binds K A.d_law ["_law_script"] []
  c_LETTERS : mg "LETTERS" = some (.str "abcdefghijklmnopqrstuvwxyz" A.t_LETTERS)
  c_MAX_LETTERS : mg "MAX_LETTERS" = some (.int (8) A.t_MAX_LETTERS)
  m_abs : mg "abs" = none
  m_all : mg "all" = none
  m_bool : mg "bool" = none
  m_divmod : mg "divmod" = none
  m_int : mg "int" = none
  m_isinstance : mg "isinstance" = none
  m_len : mg "len" = none
  m_max : mg "max" = none
  m_min : mg "min" = none
  m_range : mg "range" = none
  m_repr : mg "repr" = none
  m_str : mg "str" = none
theorem i_tt {c : Bool} {A B : Prop} (h : c = true) (x : A) : if c = true then A else B := by rw [if_pos h]; exact x
theorem i_ff {c : Bool} {A B : Prop} (h : c = false) (x : B) : if c = true then A else B := by rw [h, if_neg Bool.false_ne_true]; exact x
theorem atN_lt {xs : List Nat} {d : Int} (h0 : 0 ≤ d) (h1 : d < xs.length) : ∃ v, v ∈ xs ∧ atI xs d = some v := by
  have hd : d.toNat < xs.length := by omega
  refine ⟨xs[d.toNat], List.getElem_mem hd, ?_⟩
  unfold atI ixN
  rw [if_pos h0, if_pos h1]
  simp [hd]
theorem strs_of {n : Nat} : ∀ {ys : List V}, (∀ (i : Nat) y, ys[i]? = some y → ∃ z, y = .str z ∧ okS z n) → ∃ zs : List Str, ys = zs.map V.str ∧ ∀ z ∈ zs, okS z n
  | [], _ => ⟨[], rfl, by simp⟩
  | y :: ys, h => by
    obtain ⟨z, rfl, hz⟩ := h 0 y rfl
    obtain ⟨zs, rfl, hzs⟩ := strs_of (ys := ys) (fun i y e => h (i + 1) y e)
    exact ⟨z :: zs, rfl, List.forall_mem_cons.mpr ⟨hz, hzs⟩⟩
theorem sum_le_of {b : Nat} : ∀ zs : List Str, (∀ z ∈ zs, z.length ≤ b) → (zs.map (·.length)).sum ≤ zs.length * b
  | [], _ => by simp
  | z :: zs, h => by
    have h1 := h z (by simp)
    have ih := sum_le_of zs fun x hx => h x (List.mem_cons_of_mem _ hx)
    simp only [List.map_cons, List.sum_cons, List.length_cons, Nat.add_mul, Nat.one_mul]
    omega

local macro_rules | `(tactic| walk_at "kp") => `(tactic| first
  | with_reducible exact Kp.refl
  | with_reducible exact Kp.thenS (by assumption) (by walk_at "kp")
  | with_reducible exact Kp.thenO (by assumption) (by walk_at "ne") (by walk_at "kp")
  | fail)
local macro_rules | `(tactic| walk_at "hq") => `(tactic| first
  | assumption
  | with_reducible exact Kp.get (by assumption) (by walk_at "kp")
  | fail)
local macro_rules | `(tactic| walk_at "hg") => `(tactic| first
  | walk_at "hq"
  | exact upd_same
  | with_reducible exact (upd_ne (by walk_at "ne")).trans (by walk_at "hg")
  | with_reducible exact Same.get (by assumption) (by walk_at "hg")
  | with_reducible exact Off.get (by assumption) (by walk_at "ne") (by walk_at "hg")
  | fail)
local macro_rules | `(tactic| walk_at "ne") => `(tactic| first
  | assumption
  | (apply Ne.symm; assumption)
  | exact Rok.ne' (by assumption) (by walk_at "rok")
  | exact (Rok.ne' (by assumption) (by walk_at "rok")).symm
  | exact ne_some (by assumption) (by walk_at "hg")
  | exact (ne_some (by assumption) (by walk_at "hg")).symm
  | fail)
local macro_rules | `(tactic| walk_at "rok") => `(tactic| first
  | assumption
  | with_reducible exact Rok.kp (by assumption) (by walk_at "kp")
  | with_reducible exact Rok.same (by assumption) (by walk_at "rok")
  | fail)
local macro_rules | `(tactic| walk_at "sq") => `(tactic| first
  | assumption
  | with_reducible exact SqL.of (by walk_at "hg")
  | with_reducible exact SqT.of (by walk_at "hg")
  | fail)
local macro_rules | `(tactic| walk_at "dac") => `(tactic| first
  | assumption
  | exact DaF.same (by assumption) (by walk_at "dac")
  | fail)
local macro_rules | `(tactic| walk_at "da") => `(tactic| first
  | exact (DaF.non : DaS _ _ _ _)
  | exact (DaF.bl _ : DaS _ _ _ _)
  | exact (DaF.int _ : DaS _ _ _ _)
  | exact (DaF.str _ : DaS _ _ _ _)
  | exact DaF.non
  | exact DaF.bl _
  | exact DaF.int _
  | exact DaF.str _
  | walk_at "dac"
  | with_reducible exact DaF.lst (SqL.of (by walk_at "hq")) (fun _ => by assumption) (by walk_at "das")
  | with_reducible exact Da.lst (SqL.of (by walk_at "hq")) (by walk_at "das")
  | with_reducible exact DaF.tup (SqT.of (by walk_at "hq")) (by walk_at "das")
  | with_reducible exact DaF.dic (Rd.of (by walk_at "hq")) (by walk_at "dak")
  | fail)
local macro_rules | `(tactic| walk_at "das") => `(tactic| first
  | assumption
  | exact DaAllF.nil
  | exact DaAllF.cons (by walk_at "da") (by walk_at "das")
  | fail)
local macro_rules | `(tactic| walk_at "dak") => `(tactic| first
  | assumption
  | exact DaKvF.nil
  | exact DaKvF.cons (by walk_at "da") (by walk_at "dak")
  | fail)
local macro_rules | `(tactic| walk_at "shw") => `(tactic| first
  | assumption
  | exact shw_b2 _ _
  | exact ⟨by decide +kernel, by decide +kernel, by decide +kernel⟩
  | fail)
local macro_rules | `(tactic| walk_at "nod") => `(tactic| first
  | exact .inl rfl
  | exact .inr rfl
  | assumption
  | exact .inr (by assumption)
  | fail)
local macro_rules | `(tactic| walk_at "okd") => `(tactic| first
  | assumption
  | exact okd_of (by decide +kernel)
  | fail)
local macro_rules | `(tactic| walk_at "off") => `(tactic| first
  | assumption
  | exact Off.refl _ _
  | exact Same.refl _
  | with_reducible exact Same.thenS (by assumption) (by walk_at "off")
  | with_reducible exact Off.thenS (by assumption) (by walk_at "off")
  | with_reducible exact Off.thenO (by assumption) (by walk_at "off")
  | with_reducible exact Same.thenF (by assumption) (by assumption) (by walk_at "off") (by walk_at "off")
  | with_reducible exact Off.thenF (by assumption) (by assumption) (by walk_at "off") (by walk_at "off")
  | fail)
local macro_rules | `(tactic| walk_at "side") => `(tactic| first
  | assumption
  | omega
  | decide
  | (simp only [List.length_cons, List.length_nil]; decide)
  | exact ⟨by omega, by omega⟩
  | exact ⟨by omega, PyProof.noPylong_of_log2 (by first | assumption | decide)⟩
  | exact .inl ⟨by omega, by omega⟩
  | exact .inr ⟨by omega, by omega⟩
  | exact ⟨by decide, by decide, by decide⟩
  | exact ⟨by decide, by decide, by omega⟩
  | fail)
local macro_rules | `(tactic| walk_at "st") => `(tactic| first
  | with_reducible refine i_seq ?_
  | with_reducible refine i_asg ?_
  | with_reducible refine i_c ?_
  | ((with_reducible refine' i_var ?h ?_); (case h => rfl))
  | with_reducible refine i_op ?_
  | with_reducible refine i_cons ?_
  | with_reducible refine i_nil ?_
  | ((with_reducible refine' i_gName ?h ?_); (case h => rfl))
  | with_reducible refine i_rI0 ?_
  | ((with_reducible refine i_rI ?h ?_); (case h => walk_at "side"))
  | with_reducible refine i_test ?_
  | with_reducible refine i_exbl ?_
  | with_reducible refine i_exint ?_
  | with_reducible refine i_exs ?_
  | with_reducible refine i_ret ?_
  | with_reducible refine i_next ?_
  | with_reducible refine i_ifS ?_
  | ((with_reducible refine' i_rIxL ?h ?e ?_); (case h => walk_at "sq"); (case e => first | assumption | rfl))
  | ((with_reducible refine' i_rIxT ?h ?e ?_); (case h => walk_at "sq"); (case e => first | assumption | rfl))
  | ((with_reducible refine' i_rIxS ?h ?e ?_); (case h => walk_at "side"); (case e => first | assumption | rfl))
  | with_reducible refine i_un ?_
  | with_reducible refine i_rU ?_
  | ((with_reducible refine i_rEqSame ?h ?_); (case h => rfl))
  | ((with_reducible refine i_rNeSame ?h ?_); (case h => rfl))
  | ((with_reducible refine i_rEq ?h ?_); (case h => rfl))
  | ((with_reducible refine i_rNe ?h ?_); (case h => rfl))
  | with_reducible refine i_tB ?_
  | with_reducible refine i_and ?_
  | with_reducible refine i_or ?_
  | with_reducible refine i_not ?_
  | with_reducible refine i_andV ?_
  | with_reducible refine i_orV ?_
  | with_reducible refine i_notV ?_
  | with_reducible refine i_if ?_
  | with_reducible refine i_chain ?_
  | with_reducible refine i_drop ?_
  | with_reducible refine i_retN ?_
  | with_reducible refine i_par ?_
  | with_reducible refine i_ex2 ?_
  | ((with_reducible refine' i_aug ?h ?_); (case h => rfl))
  | with_reducible refine i_gNil ?_
  | with_reducible refine i_gCons ?_
  | ((with_reducible refine' i_gTup ?h ?e ?_); (case h => walk_at "sq"); (case e => rfl))
  | with_reducible refine i_gSub ?_
  | ((with_reducible refine' i_rSetL ?h ?e ?_); (case h => walk_at "hg"); (case e => first | assumption | rfl))
  | with_reducible refine i_tup ?_
  | with_reducible refine i_lst ?_
  | with_reducible refine i_lstN ?_
  | with_reducible refine i_newDK ?_
  | with_reducible refine i_disp ?_
  | with_reducible refine i_pairs0 ?_
  | with_reducible refine i_pairs1 ?_
  | with_reducible refine i_call ?_
  | with_reducible refine i_cb ?_
  | with_reducible refine i_bm ?_
  | with_reducible refine i_m1 ?_
  | with_reducible refine i_m0 ?_
  | ((with_reducible refine' i_rAppend ?h ?e ?_); (case h => walk_at "hg"); (case e => walk_at "side"))
  | ((with_reducible refine i_rSlS ?h ?_); (case h => walk_at "side"))
  | ((with_reducible refine' i_rSlL ?h ?_); (case h => walk_at "sq"))
  | with_reducible refine i_sl ?_
  | with_reducible refine i_noPart ?_
  | with_reducible refine i_part ?_
  | with_reducible refine i_rng1 ?_
  | with_reducible refine i_iList ?_
  | with_reducible refine i_iStr ?_
  | ((with_reducible refine i_exrng ?h1 ?h2 ?_); (case h1 => walk_at "side"); (case h2 => walk_at "side"))
  | ((with_reducible refine' i_exl ?h ?_); (case h => walk_at "sq"))
  | with_reducible refine i_for ?_
  | with_reducible refine i_lc ?_
  | with_reducible refine i_yes ?_
  | with_reducible refine i_iteT ?_
  | with_reducible refine i_iteF ?_
  | ((with_reducible refine i_divmod ?h ?_); (case h => walk_at "side"))
  | ((with_reducible refine' i_isi ?h ?e ?_); (case h => walk_at "da"); (case e => decide))
  | ((with_reducible refine i_lenS ?h ?_); (case h => walk_at "side"))
  | ((with_reducible refine' i_lenL ?h ?_); (case h => walk_at "sq"))
  | ((with_reducible refine' i_lenT ?h ?_); (case h => walk_at "sq"))
  | ((with_reducible refine' i_repr ?h ?n ?e ?_); (case h => walk_at "da"); (case n => walk_at "nod"); (case e => walk_at "shw"))
  | ((with_reducible refine' i_rCat ?h ?e ?z ?_); (case h => walk_at "hg"); (case e => walk_at "hg"); (case z => walk_at "side"))
  | ((with_reducible refine i_rCatS ?h ?_); (case h => walk_at "side"))
  | with_reducible refine i_exstr ?_
  | ((with_reducible refine' i_join ?h ?z ?_); (case h => walk_at "sq"); (case z => walk_at "side"))
  | with_reducible refine i_abs ?_
  | with_reducible refine i_max ?_
  | with_reducible refine i_min ?_
  | ((with_reducible refine' i_rAll ?h ?_); (case h => walk_at "sq"))
  | ((with_reducible refine' i_lcEl ?h ?e ?_); (case h => walk_at "hg"); (case e => walk_at "side"))
  | with_reducible refine ⟨_, _, rfl, rfl, ?_⟩
  | with_reducible refine ⟨_, _, rfl, ?_⟩
  | with_reducible refine ⟨_, rfl, ?_⟩
  | with_reducible refine And.intro rfl ?_
  | ((with_reducible refine And.intro ?h ?_); (case h => walk_at "side"))
  | fail)

/-! ### promises -/
def sp_l_draw : Sp := fun vs H Q _ => ∃ r m, vs = [.ref r, .int m] ∧ 0 < m ∧ m.natAbs.log2 < 9000 ∧ Rok H r ∧
  ∀ d H', 0 ≤ d → d < m → Rok H' r → Off r H H' → Q (.int d) H'
def sp_l_choice : Sp := fun vs H Q _ => ∃ r o xs, vs = [.ref r, .ref o] ∧ H o = some (.lst xs) ∧ o ≠ r ∧ 0 < xs.length ∧ xs.length < 1000 ∧ Rok H r ∧
  ∀ v H', v ∈ xs → Rok H' r → Off r H H' → Q v H'
def sp_l_rng (K : PySem.W.Frag) : Sp := fun vs H Q _ => ∃ (s : Addr) (ns : List Int) (k : Int), vs = [.ref s, .int k] ∧ SqL K H s (ns.map V.int) ∧ 0 ≤ k ∧ k < 100 ∧ ns.length ≤ 63 ∧
  ∀ r H', H r = none → Rok H' r → Same H H' → Q (.ref r) H'
section
variable {P : Program} {w : World} {K : PySem.W.Frag} {mg : Str → Option Value} {base : Heap} {A : Ad}
theorem ok_l_draw (T : Txt K mg A) : Fg P w K mg base CX0 1 A.f_l_draw A.d_l_draw ["_law_rng_here", "_law_many"] sp_l_draw := by
  refine ok_g T.F_l_draw sc_l_draw (fun vs H Q E h => ?_) (fun cdv Ar outer s H vs Q E hr h => ?_)
  · obtain ⟨r, m, rfl, _⟩ := h; rfl
  · obtain ⟨r, m, rfl, m0, mb, ⟨a, b, hR, b0, b1⟩, q⟩ := h
    refine ⟨_, (pss_cons (ps_if (pt_cmpR op_gt (pe_ix ix_list (pv 0) pe_int (fun _ _ => rfl)) pe_int (nomark _))
(pss_cons (ps_asg (pe_callB call_divmodN (by rfl) T.m_divmod (by decide +kernel) (pa_cons (pe_ix ix_list (pv 0) pe_int (fun _ _ => rfl)) (pa_cons (pv 1) pa_nil))) (pg_tup rfl (pgs_cons (pg_sub (pv 0) pe_int set_list) (pgs_cons (pg_name (i := 2) sc_l_draw.nd rfl (.inl rfl)) pgs_nil))))
(pss_one (ps_ret (pv 2))))
pss_nil)
(pss_cons (ps_asg (pe_op op_mod (pe_op op_add (pe_op op_mul (pe_ix ix_list (pv 0) pe_int (fun _ _ => rfl)) pe_int) pe_int) pe_int) (pg_sub (pv 0) pe_int set_list))
(pss_one (ps_ret (pe_op op_mod (pe_op op_fdiv (pe_op op_mod (pe_op op_mul (pe_ix ix_list (pv 0) pe_int (fun _ _ => rfl)) (pe_ix ix_list (pv 0) pe_int (fun _ _ => rfl))) pe_int) pe_int) (pv 1)))))), ?_⟩
    repeat (walk_at "st")
    refine ite2 (fun e => ?_) (fun e => ?_)
    · repeat (walk_at "st")
      refine i_new fun p1 G1 n1 s1 e1 => ?_
      repeat (walk_at "st")
      refine i_put fun G2 o2 e2 => ?_
      repeat (walk_at "st")
      exact q _ _ (Int.emod_nonneg _ (by omega)) (Int.emod_lt_of_pos _ m0) ⟨_, _, e2, b0, b1⟩ (Off.trans (.of_same s1) o2)
    · repeat (walk_at "st")
      refine i_put fun G1 o1 e1 => ?_
      repeat (walk_at "st")
      exact q _ _ (Int.emod_nonneg _ (by omega)) (Int.emod_lt_of_pos _ m0) ⟨_, _, e1, Int.emod_nonneg _ (by decide), Int.lt_trans (Int.emod_lt_of_pos _ (by decide)) (by decide)⟩ o1
theorem atI_lt {xs : List V} {d : Int} (h0 : 0 ≤ d) (h1 : d < xs.length) : ∃ v, v ∈ xs ∧ atI xs d = some v := by
  have hd : d.toNat < xs.length := by omega
  refine ⟨xs[d.toNat], List.getElem_mem hd, ?_⟩
  unfold atI ixN
  rw [if_pos h0, if_pos h1]
  simp [hd]
theorem ok_l_choice (T : Txt K mg A) (G_l_draw : Fg P w K mg base CX0 1 A.f_l_draw A.d_l_draw ["_law_rng_here", "_law_many"] sp_l_draw) : Fg P w K mg base CX0 2 A.f_l_choice A.d_l_choice ["_law_rng_here", "_law_options"] sp_l_choice := by
  refine ok_g T.F_l_choice sc_l_choice (fun vs H Q E h => ?_) (fun cdv Ar outer s H vs Q E hr h => ?_)
  · obtain ⟨_, _, _, rfl, _⟩ := h; rfl
  · obtain ⟨r, o, xs, rfl, hO, hne, l0, l1, hR, q⟩ := h
    have lb : (xs.length : Int).natAbs.log2 < 9000 := Nat.lt_of_le_of_lt (Nat.log2_le_self _) (by omega)
    refine ⟨_, (pss_one (ps_ret (pe_ix ix_list (pv 1) (pe_call G_l_draw (hr.mono (by decide)) (by rfl) T.g_l_draw T.F_l_draw.kp T.b_l_draw .nil pass0 (pa_cons (pv 0) (pa_cons (pe_callB call_lenN (by rfl) T.m_len (by decide +kernel) (pa_cons (pv 1) pa_nil)) pa_nil))) (fun _ _ => rfl)))), ?_⟩
    repeat (walk_at "st")
    refine ⟨_, _, rfl, (by walk_at "side"), (by first | decide | decide +kernel | assumption), (by walk_at "rok"), fun d1 G1 dl1 dh1 r1 o1 => ?_⟩
    obtain ⟨v, hv, ev⟩ := atI_lt (xs := xs) dl1 dh1
    repeat (walk_at "st")
    exact q _ _ hv r1 o1
theorem ok_l_rng (T : Txt K mg A) : Fg P w K mg base CX0 1 A.f_l_rng A.d_l_rng ["_law_script", "_law_k"] (sp_l_rng K) := by
  refine ok_g T.F_l_rng sc_l_rng (fun vs H Q E h => ?_) (fun cdv Ar outer s H vs Q E hr h => ?_)
  · obtain ⟨_, _, _, rfl, _⟩ := h; rfl
  · obtain ⟨s, ns, k, rfl, hS, k0, k1, hl, q⟩ := h
    refine ⟨_, (pss_cons (ps_set (i := 2) sc_l_rng.nd rfl (.inl rfl) (pe_ifExp (pt_cmpR op_lt (pv 1) (pe_callB call_lenN (by rfl) T.m_len (by decide +kernel) (pa_cons (pv 0) pa_nil)) (nomark _)) (pe_callB call_abs (by rfl) T.m_abs (by decide +kernel) (pa_cons (pe_ix ix_list (pv 0) (pv 1) (fun _ _ => rfl)) pa_nil)) pe_int))
(pss_one (ps_ret (pe_lst (pa_cons (pe_callB (call_max2 rfl) (by rfl) T.m_max (by decide +kernel) (pa_cons pe_int (pa_cons (pe_op op_sub (pv 2) (pe_op op_pow pe_int pe_int)) pa_nil))) (pa_cons (pe_op op_add (pe_op op_mod (pe_op op_pow (pe_op op_add (pe_op op_add (pe_op op_mod (pv 2) pe_int) (pe_op op_mul pe_int (pv 1))) pe_int) pe_int) pe_int) pe_int) pa_nil)))))), ?_⟩
    repeat (walk_at "st")
    refine i_ite (fun e => ?_) (fun e => ?_)
    · have e' : k < ns.length := by simpa using of_decide_eq_true e
      obtain ⟨v, hv, ev⟩ := atI_lt (xs := ns.map V.int) k0 (by simpa using e')
      obtain ⟨z, _, rfl⟩ := List.mem_map.mp hv
      repeat (walk_at "st")
      refine i_new fun p1 G1 n1 s1 e1 => ?_
      repeat (walk_at "st")
      exact q _ _ n1 ⟨_, _, e1, by omega, by omega⟩ s1
    · repeat (walk_at "st")
      refine i_new fun p1 G1 n1 s1 e1 => ?_
      repeat (walk_at "st")
      exact q _ _ n1 ⟨_, _, e1, by omega, by omega⟩ s1
/-! names and versions -/
def az : List Nat := (Str.ofString "abcdefghijklmnopqrstuvwxyz").cps.toList
theorem az_small : ∀ c ∈ az, c < 1114112 := by decide +kernel
def nameB : PyData → Bool
  | .str x => decide (1 ≤ x.length) && (decide (x.length ≤ 8) && x.cps.toList.all fun c => decide (c ∈ az))
  | _ => false
def verB : PyData → Bool
  | .int i => decide (0 ≤ i)
  | _ => false
def sp_data (K : PySem.W.Frag) (f : PyData → Bool) : Sp := fun vs H Q _ => ∃ v d, vs = [v] ∧ Da K H v d ∧ (∀ x, d = .str x → okS x 16777216) ∧ ∀ H', Same H H' → Q (.bl (f d)) H'
theorem ok_is_integer (T : Txt K mg A) : Fg P w K mg base CX0 1 A.f_is_integer A.d_is_integer ["value"] (sp_data K fun d => isi d "int" && !isi d "bool") := by
  refine ok_g T.F_is_integer sc_is_integer (fun vs H Q E h => ?_) (fun cdv Ar outer s H vs Q E hr h => ?_)
  · obtain ⟨_, _, rfl, _⟩ := h; rfl
  · obtain ⟨v, d, rfl, hd, hx, q⟩ := h
    refine ⟨_, (pss_one (ps_ret (pe_and (pe_callB call_isiD (by rfl) T.m_isinstance (by decide +kernel) (pa_cons (pv 0) (pa_cons (pe_bltn (v := .ty "int") rfl T.m_int (by decide +kernel) rfl) pa_nil))) (pe_one (pe_not (pe_callB call_isiD (by rfl) T.m_isinstance (by decide +kernel) (pa_cons (pv 0) (pa_cons (pe_bltn (v := .ty "bool") rfl T.m_bool (by decide +kernel) rfl) pa_nil)))))))), ?_⟩
    have q' := q _ (Same.refl H)
    dsimp only at q'
    repeat (walk_at "st")
    refine i_ite (fun e => ?_) (fun e => ?_)
    · repeat (walk_at "st")
      rw [e] at q'; exact q'
    · rw [e] at q'; exact q'
theorem ok_is_version (T : Txt K mg A) (G_is_integer : Fg P w K mg base CX0 1 A.f_is_integer A.d_is_integer ["value"] (sp_data K fun d => isi d "int" && !isi d "bool")) : Fg P w K mg base CX0 2 A.f_is_version A.d_is_version ["value"] (sp_data K verB) := by
  refine ok_g T.F_is_version sc_is_version (fun vs H Q E h => ?_) (fun cdv Ar outer s H vs Q E hr h => ?_)
  · obtain ⟨_, _, rfl, _⟩ := h; rfl
  · obtain ⟨v, d, rfl, hd, hx, q⟩ := h
    refine ⟨_, (pss_one (ps_ret (pe_and (pe_call G_is_integer (hr.mono (by decide)) (by rfl) T.g_is_integer T.F_is_integer.kp T.b_is_integer .nil pass0 (pa_cons (pv 0) pa_nil)) (pe_one (pe_cmpR op_ge (pv 0) pe_int (nomark _)))))), ?_⟩
    repeat (walk_at "st")
    refine ⟨_, _, rfl, hd, hx, fun G1 s1 => ?_⟩
    repeat (walk_at "st")
    have q' := q _ s1
    cases hd with
    | int i => 
      refine i_iteT ?_
      repeat (walk_at "st")
      exact q'
    | _ => exact q'
theorem all_filter (p : Nat → Bool) : ∀ l : List Nat, l.all p = (l.filter fun c => !p c).isEmpty
  | [] => rfl
  | c :: l => by
    rw [List.all_cons, List.filter_cons, all_filter p l]
    cases p c <;> rfl
def ordV : V → Nat
  | .str z => z.cps.getD 0 0
  | _ => 0
theorem signsV_get {x : Str} {i : Nat} {v : V} (h : (signsV x)[i]? = some v) : ∃ c, v = .str ⟨#[c]⟩ ∧ c ∈ x.cps.toList := by
  have hm := List.mem_of_getElem? h
  obtain ⟨c, hc, e⟩ := List.mem_map.mp hm
  exact ⟨c, e.symm, hc⟩
theorem ok_is_name (T : Txt K mg A) : Fg P w K mg base CX0 1 A.f_is_name A.d_is_name ["value"] (sp_data K nameB) := by
  refine ok_g T.F_is_name sc_is_name (fun vs H Q E h => ?_) (fun cdv Ar outer s H vs Q E hr h => ?_)
  · obtain ⟨_, _, rfl, _⟩ := h; rfl
  · obtain ⟨v, d, rfl, hd, hx, q⟩ := h
    refine ⟨_, (pss_cons (ps_if (PW.pt (pw_or (pt_not (pt_val (pe_callB call_isiD (by rfl) T.m_isinstance (by decide +kernel) (pa_cons (pv 0) (pa_cons (pe_bltn (v := .ty "str") rfl T.m_str (by decide +kernel) rfl) pa_nil))))) (pw_or1 (pt_not (pt_chain op_le op_le pe_int (pe_callB call_lenN (by rfl) T.m_len (by decide +kernel) (pa_cons (pv 0) pa_nil)) (pe_glob (v := .int (8)) rfl T.c_MAX_LETTERS ⟨_, rfl⟩))))))
(pss_one (ps_ret pe_bl))
pss_nil)
(pss_one (ps_ret (pe_callB (cr_all rfl) (by rfl) T.m_all (by decide +kernel) (pa_cons (pe_lc (own := [("letter", 1)]) rfl sc_is_name.nd (pi_str (pv 0)) (blkOk_by (own := [("letter", 1)]) (N := ["value", "letter"]) (sc := defScope s_is_name) (by decide +kernel)) (fun _ _ _ _ _ => (pg_name (i := 1) sc_is_name.nd rfl (.inl rfl))) (fun _ _ _ _ _ => pts_nil) (fun _ _ _ _ _ => (pe_cmpR op_in_sign (pv 1) (pe_glob (v := .str "abcdefghijklmnopqrstuvwxyz") rfl T.c_LETTERS ⟨_, rfl⟩) (by rfl)))) pa_nil))))), ?_⟩
    repeat (walk_at "st")
    cases hd with
    | str x =>
      have hk := hx x rfl
      have hl := hk.line (Nat.le_refl _)
      refine i_ff (by rfl) ?_
      repeat (walk_at "st")
      refine i_ite (fun e => ?_) (fun e => ?_)
      · repeat (walk_at "st")
        refine i_ite (fun e2 => ?_) (fun e2 => ?_)
        · repeat (walk_at "st")
          have l8 : ¬ x.length ≤ 8 := by simp at e2; omega
          have en : nameB (.str x) = false := by simp [nameB, l8]
          have q' := q _ (Same.refl H)
          rw [en] at q'
          exact q'
        · repeat (walk_at "st")
          have l8 : x.length ≤ 8 := by simp at e2; omega
          have l1 : 1 ≤ x.length := by have := of_decide_eq_true e; omega
          refine l_map wk_str (fun v => .bl (decide (ordV v ∈ az))) (by rw [signsV_len]; exact Nat.lt_of_le_of_lt l8 (by decide)) (fun _ _ => trivial) (fun i v H' R hv s1 hR => ?_) (fun D H' n1 s1 e1 => ?_)
          · obtain ⟨c, rfl, hc⟩ := signsV_get hv
            repeat (walk_at "st")
            exact hR _ (Same.refl _)
          · have e3 : (signsV x).map (fun v => V.bl (decide (ordV v ∈ az))) = (x.cps.toList.map fun c => decide (c ∈ az)).map V.bl := by
              simp only [signsV, List.map_map]; rfl
            rw [e3] at e1
            repeat (walk_at "st")
            have q' := q _ s1
            have en : nameB (.str x) = ((x.cps.toList.map fun c => decide (c ∈ az)).all id) := by
              rw [List.all_map]
              simp [nameB, l1, l8]
            rw [en] at q'
            exact q'
      · repeat (walk_at "st")
        refine i_tt (by rfl) ?_
        repeat (walk_at "st")
        have l1 : ¬ 1 ≤ x.length := by have := of_decide_eq_false e; omega
        have en : nameB (.str x) = false := by simp [nameB, l1]
        have q' := q _ (Same.refl H)
        rw [en] at q'
        exact q'
    | _ => 
      repeat (walk_at "st")
      exact q _ (Same.refl _)
/-! the law's own -/
theorem ok_l_is_version (T : Txt K mg A) : Fg P w K mg base CX0 1 A.f_l_is_version A.d_l_is_version ["_law_value"] (sp_data K verB) := by
  refine ok_g T.F_l_is_version sc_l_is_version (fun vs H Q E h => ?_) (fun cdv Ar outer s H vs Q E hr h => ?_)
  · obtain ⟨_, _, rfl, _⟩ := h; rfl
  · obtain ⟨v, d, rfl, hd, hx, q⟩ := h
    refine ⟨_, (pss_one (ps_ret (pe_and (pe_callB call_isiD (by rfl) T.m_isinstance (by decide +kernel) (pa_cons (pv 0) (pa_cons (pe_bltn (v := .ty "int") rfl T.m_int (by decide +kernel) rfl) pa_nil))) (pe_and (pe_not (pe_callB call_isiD (by rfl) T.m_isinstance (by decide +kernel) (pa_cons (pv 0) (pa_cons (pe_bltn (v := .ty "bool") rfl T.m_bool (by decide +kernel) rfl) pa_nil)))) (pe_one (pe_cmpR op_ge (pv 0) pe_int (nomark _))))))), ?_⟩
    have q' := q _ (Same.refl H)
    repeat (walk_at "st")
    cases hd with
    | int i =>
      refine i_tt (by rfl) ?_
      repeat (walk_at "st")
      refine i_tt (by rfl) ?_
      repeat (walk_at "st")
      exact q'
    | bl b =>
      refine i_tt (by rfl) ?_
      repeat (walk_at "st")
      exact q'
    | _ => exact q'
theorem ok_l_is_name (T : Txt K mg A) : Fg P w K mg base CX0 1 A.f_l_is_name A.d_l_is_name ["_law_value"] (sp_data K nameB) := by
  refine ok_g T.F_l_is_name sc_l_is_name (fun vs H Q E h => ?_) (fun cdv Ar outer s H vs Q E hr h => ?_)
  · obtain ⟨_, _, rfl, _⟩ := h; rfl
  · obtain ⟨v, d, rfl, hd, hx, q⟩ := h
    refine ⟨_, (pss_cons (ps_if (PW.pt (pw_or (pt_not (pt_val (pe_callB call_isiD (by rfl) T.m_isinstance (by decide +kernel) (pa_cons (pv 0) (pa_cons (pe_bltn (v := .ty "str") rfl T.m_str (by decide +kernel) rfl) pa_nil))))) (pw_or (pt_cmpR op_lt (pe_callB call_lenN (by rfl) T.m_len (by decide +kernel) (pa_cons (pv 0) pa_nil)) pe_int (nomark _)) (pw_or1 (pt_cmpR op_gt (pe_callB call_lenN (by rfl) T.m_len (by decide +kernel) (pa_cons (pv 0) pa_nil)) pe_int (nomark _))))))
(pss_one (ps_ret pe_bl))
pss_nil)
(pss_one (ps_ret (pe_cmpR (op_eqD hr.room.units) (pe_lc (own := [("_law_sign", 1)]) rfl sc_l_is_name.nd (pi_str (pv 0)) (blkOk_by (own := [("_law_sign", 1)]) (N := ["_law_value", "_law_sign"]) (sc := defScope s_l_is_name) (by decide +kernel)) (fun _ _ _ _ _ => (pg_name (i := 1) sc_l_is_name.nd rfl (.inl rfl))) (fun _ _ _ _ _ => (pts_one (pt_cmpR op_notIn_sign (pv 1) pe_str (by rfl)))) (fun _ _ _ _ _ => (pv 1))) (pe_lst pa_nil) (nomark _))))), ?_⟩
    repeat (walk_at "st")
    cases hd with
    | str x =>
      have hk := hx x rfl
      have hl := hk.line (Nat.le_refl _)
      refine i_ff (by rfl) ?_
      repeat (walk_at "st")
      refine i_ite (fun e => ?_) (fun e => ?_)
      · repeat (walk_at "st")
        have l1 : ¬ 1 ≤ x.length := by have := of_decide_eq_true e; omega
        have en : nameB (.str x) = false := by simp [nameB, l1]
        have q' := q _ (Same.refl H)
        rw [en] at q'
        exact q'
      · repeat (walk_at "st")
        have l1 : 1 ≤ x.length := by have := of_decide_eq_false e; omega
        refine i_ite (fun e2 => ?_) (fun e2 => ?_)
        · repeat (walk_at "st")
          have l8 : ¬ x.length ≤ 8 := by have := of_decide_eq_true e2; omega
          have en : nameB (.str x) = false := by simp [nameB, l8]
          have q' := q _ (Same.refl H)
          rw [en] at q'
          exact q'
        · repeat (walk_at "st")
          have l8 : x.length ≤ 8 := by have := of_decide_eq_false e2; omega
          refine l_filter wk_str (fun v => !decide (ordV v ∈ az)) id (by rw [signsV_len]; exact Nat.lt_of_le_of_lt l8 (by decide)) (fun _ _ => trivial) (fun i v H' R N hv s1 hR hN => ?_) (fun D H' n1 s1 e1 => ?_)
          · obtain ⟨c, rfl, hc⟩ := signsV_get hv
            repeat (walk_at "st")
            refine i_ite (fun e => ?_) (fun e => ?_)
            · repeat (walk_at "st")
              exact hR e _ (Same.refl _)
            · exact hN e _ (Same.refl _)
          · repeat (walk_at "st")
            refine i_new fun p2 G2 n2 s2 e2 => ?_
            repeat (walk_at "st")
            have e3 : List.map id (List.filter (fun v => !decide (ordV v ∈ az)) (signsV x)) = (x.cps.toList.filter fun c => !decide (c ∈ az)).map fun c => V.str ⟨#[c]⟩ := by
              simp only [signsV, List.filter_map, List.map_id_fun, id]; rfl
            rw [e3] at e1
            refine i_eqSigns (s2 _ _ e1) e2 (fun c hc => hk.2 c (List.mem_filter.mp hc).1) ?_
            have en : nameB (.str x) = (x.cps.toList.filter fun c => !decide (c ∈ az)).isEmpty := by
              rw [← all_filter]
              simp [nameB, l1, l8]
            have q' := q _ (s1.trans s2)
            rw [en] at q'
            exact q'
    | _ =>
      repeat (walk_at "st")
      exact q _ (Same.refl _)
/-! what is drawn -/
def sp_drawn (ok : V → Hp → Prop) : Sp := fun vs H Q _ => ∃ r, vs = [.ref r] ∧ Rok H r ∧ ∀ v H', ok v H' → Rok H' r → Off r H H' → Q v H'
theorem ok_l_number (T : Txt K mg A) (G_l_draw : Fg P w K mg base CX0 1 A.f_l_draw A.d_l_draw ["_law_rng_here", "_law_many"] sp_l_draw) : Fg P w K mg base CX0 2 A.f_l_number A.d_l_number ["_law_rng_here"] (sp_drawn fun v _ => ∃ i : Int, v = .int i ∧ i.natAbs < 2 ^ 200) := by
  refine ok_g T.F_l_number sc_l_number (fun vs H Q E h => ?_) (fun cdv Ar outer s H vs Q E hr h => ?_)
  · obtain ⟨_, rfl, _⟩ := h; rfl
  · obtain ⟨r, rfl, hR, q⟩ := h
    refine ⟨_, (pss_cons (ps_set (i := 1) sc_l_number.nd rfl (.inl rfl) (pe_ix ix_list (pe_lst (pa_cons pe_int (pa_cons pe_int (pa_cons (pe_call G_l_draw (hr.mono (by decide)) (by rfl) T.g_l_draw T.F_l_draw.kp T.b_l_draw .nil pass0 (pa_cons (pv 0) (pa_cons pe_int pa_nil))) (pa_cons (pe_op op_add (pe_op op_pow pe_int pe_int) (pe_call G_l_draw (hr.mono (by decide)) (by rfl) T.g_l_draw T.F_l_draw.kp T.b_l_draw .nil pass0 (pa_cons (pv 0) (pa_cons (pe_op op_pow pe_int pe_int) pa_nil)))) (pa_cons (pe_op op_sub (pe_op op_pow pe_int pe_int) pe_int) pa_nil)))))) (pe_call G_l_draw (hr.mono (by decide)) (by rfl) T.g_l_draw T.F_l_draw.kp T.b_l_draw .nil pass0 (pa_cons (pv 0) (pa_cons pe_int pa_nil))) (fun _ _ => rfl)))
(pss_one (ps_ret (pe_op op_mulW (pv 1) (pe_ix ix_list (pe_lst (pa_cons pe_int (pa_cons (pe_un un_neg pe_int) pa_nil))) (pe_call G_l_draw (hr.mono (by decide)) (by rfl) T.g_l_draw T.F_l_draw.kp T.b_l_draw .nil pass0 (pa_cons (pv 0) (pa_cons pe_int pa_nil))) (fun _ _ => rfl)))))), ?_⟩
    repeat (walk_at "st")
    refine ⟨_, _, rfl, (by walk_at "side"), (by first | decide | decide +kernel | assumption), (by walk_at "rok"), fun d1 G1 dl1 dh1 r1 o1 => ?_⟩
    repeat (walk_at "st")
    refine ⟨_, _, rfl, (by walk_at "side"), (by first | decide | decide +kernel | assumption), (by walk_at "rok"), fun d2 G2 dl2 dh2 r2 o2 => ?_⟩
    repeat (walk_at "st")
    refine i_new fun p3 G3 n3 s3 e3 => ?_
    repeat (walk_at "st")
    refine ⟨_, _, rfl, (by walk_at "side"), (by first | decide | decide +kernel | assumption), (by walk_at "rok"), fun d4 G4 dl4 dh4 r4 o4 => ?_⟩
    obtain ⟨v5, hv5, ev5⟩ := atI_lt (xs := [V.int 0, V.int 1, V.int d1, V.int (10 ^ Int.toNat 59 + d2), V.int (10 ^ Int.toNat 60 - 1)]) dl4 dh4
    have k5 : ∃ i : Int, v5 = .int i ∧ i.natAbs < 2 ^ 200 := by
      have z1 : (10 : Int) ^ Int.toNat 59 = 100000000000000000000000000000000000000000000000000000000000 := by decide +kernel
      have z2 : (10 : Int) ^ Int.toNat 20 = 100000000000000000000 := by decide +kernel
      have z3 : (10 : Int) ^ Int.toNat 60 = 1000000000000000000000000000000000000000000000000000000000000 := by decide +kernel
      have z4 : (2 : Nat) ^ 200 = 1606938044258990275541962092341162602522202993782792835301376 := by decide +kernel
      simp only [List.mem_cons, List.not_mem_nil, or_false] at hv5
      rw [z1, z3] at hv5
      rw [z2] at dh2
      rw [z4]
      rcases hv5 with rfl | rfl | rfl | rfl | rfl
      all_goals exact ⟨_, rfl, by omega⟩
    obtain ⟨i5, rfl, hi5⟩ := k5
    repeat (walk_at "st")
    refine i_new fun p6 G6 n6 s6 e6 => ?_
    repeat (walk_at "st")
    refine ⟨_, _, rfl, (by walk_at "side"), (by first | decide | decide +kernel | assumption), (by walk_at "rok"), fun d7 G7 dl7 dh7 r7 o7 => ?_⟩
    obtain ⟨v8, hv8, ev8⟩ := atI_lt (xs := [V.int 1, V.int (-1)]) dl7 dh7
    have k8 : ∃ i : Int, v8 = .int i ∧ i.natAbs = 1 := by
      simp only [List.mem_cons, List.not_mem_nil, or_false] at hv8
      rcases hv8 with rfl | rfl
      · exact ⟨_, rfl, rfl⟩
      · exact ⟨_, rfl, rfl⟩
    obtain ⟨i8, rfl, hi8⟩ := k8
    have hm : CMulW i5 i8 := wide_mul (a := 200) (b := 1) hi5 (by omega) (by decide) (by decide) (by decide)
    repeat (walk_at "st")
    refine q _ _ ⟨_, rfl, ?_⟩ r7 (by walk_at "off")
    rw [Int.natAbs_mul, hi8, Nat.mul_one]; exact hi5
theorem ok_l_text (T : Txt K mg A) (G_l_draw : Fg P w K mg base CX0 1 A.f_l_draw A.d_l_draw ["_law_rng_here", "_law_many"] sp_l_draw) : Fg P w K mg base CX0 2 A.f_l_text A.d_l_text ["_law_rng_here"] (sp_drawn fun v _ => ∃ x, v = .str x ∧ okS x 30) := by
  refine ok_g T.F_l_text sc_l_text (fun vs H Q E h => ?_) (fun cdv Ar outer s H vs Q E hr h => ?_)
  · obtain ⟨_, rfl, _⟩ := h; rfl
  · obtain ⟨r, rfl, hR, q⟩ := h
    refine ⟨_, (pss_cons (ps_set (i := 1) sc_l_text.nd rfl (.inr rfl) pe_str)
(pss_cons (ps_set (i := 2) sc_l_text.nd rfl (.inl rfl) (pe_joinN pe_str (pe_lc (own := [("_law_k", 5)]) rfl sc_l_text.nd (pi_range1 rfl T.m_range (pa_cons (pe_call G_l_draw (hr.mono (by decide)) (by rfl) T.g_l_draw T.F_l_draw.kp T.b_l_draw .nil pass0 (pa_cons (pv 0) (pa_cons pe_int pa_nil))) pa_nil)) (blkOk_by (own := [("_law_k", 5)]) (N := ["_law_rng_here", "_law_letters", "_law_found", "_law_at", "_law_sign", "_law_k"]) (sc := defScope s_l_text) (by decide +kernel)) (fun _ _ _ _ _ => (pg_name (i := 5) sc_l_text.nd rfl (.inl rfl))) (fun _ _ _ _ _ => pts_nil) (fun _ _ _ _ _ => (pe_ix ix_str (pv 1) (pe_call G_l_draw (hr.mono (by decide)) (by rfl) T.g_l_draw T.F_l_draw.kp T.b_l_draw .nil pass0 (pa_cons (pv 0) (pa_cons pe_int pa_nil))) (fun _ _ => rfl))))))
(pss_cons (ps_if (pt_cmpR op_gt (pe_call G_l_draw (hr.mono (by decide)) (by rfl) T.g_l_draw T.F_l_draw.kp T.b_l_draw .nil pass0 (pa_cons (pv 0) (pa_cons pe_int pa_nil))) pe_int (nomark _))
(pss_one (ps_ret (pv 2)))
pss_nil)
(pss_cons (ps_par (i := 3) (j := 4) rfl sc_l_text.nd rfl rfl (by decide) rfl rfl (pa_cons (pe_call G_l_draw (hr.mono (by decide)) (by rfl) T.g_l_draw T.F_l_draw.kp T.b_l_draw .nil pass0 (pa_cons (pv 0) (pa_cons (pe_op op_add (pe_callB call_lenN (by rfl) T.m_len (by decide +kernel) (pa_cons (pv 2) pa_nil)) pe_int) pa_nil))) (pa_cons (pe_ix ix_str pe_str (pe_call G_l_draw (hr.mono (by decide)) (by rfl) T.g_l_draw T.F_l_draw.kp T.b_l_draw .nil pass0 (pa_cons (pv 0) (pa_cons pe_int pa_nil))) (fun _ _ => rfl)) pa_nil)) (by rfl))
(pss_one (ps_ret (pe_op op_catS (pe_op op_catS (pe_slice sl_str (pv 2) po_none (po_some (pv 3))) (pv 4)) (pe_slice sl_str (pv 2) (po_some (pe_op op_add (pv 3) (pe_call G_l_draw (hr.mono (by decide)) (by rfl) T.g_l_draw T.F_l_draw.kp T.b_l_draw .nil pass0 (pa_cons (pv 0) (pa_cons pe_int pa_nil))))) po_none)))))))), ?_⟩
    repeat (walk_at "st")
    refine ⟨_, _, rfl, (by walk_at "side"), (by first | decide | decide +kernel | assumption), (by walk_at "rok"), fun d1 G1 dl1 dh1 r1 o1 => ?_⟩
    repeat (walk_at "st")
    refine l_rng wk_range r (fun _ y => ∃ z, y = .str z ∧ okS z 1) (by rw [rangeV_len]; exact Nat.lt_of_le_of_lt (show d1.toNat ≤ 11 by omega) (by decide)) r1 (fun _ _ => trivial) (fun i x H' R hx oH rH hR' => ?_) (fun D H' ys n2 hDr o2 r2 e2 hl hy => ?_)
    · repeat (walk_at "st")
      refine ⟨_, _, rfl, (by walk_at "side"), (by first | decide | decide +kernel | assumption), (by walk_at "rok"), fun d2 G2 dl2 dh2 r2 o2 => ?_⟩
      obtain ⟨c, hc, ec⟩ := atN_lt (xs := az) dl2 (show d2 < az.length from dh2)
      repeat (walk_at "st")
      refine hR' _ _ ⟨_, rfl, okS.one (az_small _ hc)⟩ o2 r2
    · obtain ⟨zs, rfl, hz⟩ := strs_of hy
      have hz1 : (zs.map (·.length)).sum + zs.length * (Str.ofString "").length ≤ 16777216 := by
        have := sum_le_of (b := 1) zs (fun z h => (hz z h).1)
        have e0 : (Str.ofString "").length = 0 := rfl
        rw [List.length_map, rangeV_len] at hl
        rw [e0]; omega
      have hj := okS.joined hz (s := Str.ofString "") rfl
      have hl2 : zs.length ≤ 11 := by rw [List.length_map, rangeV_len] at hl; omega
      have hj2 : okS (Txt.join (Str.ofString "") zs) 11 := hj.mono (by omega)
      have hjl := hj2.1
      have lb : (((Txt.join (Str.ofString "") zs).length : Int) + 1).natAbs.log2 < 9000 := Nat.lt_of_le_of_lt (Nat.log2_le_self _) (by omega)
      have hjz := hj2.line (by decide)
      repeat (walk_at "st")
      refine ⟨_, _, rfl, (by walk_at "side"), (by first | decide | decide +kernel | assumption), (by walk_at "rok"), fun d3 G3 dl3 dh3 r3 o3 => ?_⟩
      repeat (walk_at "st")
      refine i_ite (fun e => ?_) (fun e => ?_)
      · repeat (walk_at "st")
        exact q _ _ ⟨_, rfl, hj2.mono (by decide)⟩ r3 (by walk_at "off")
      · repeat (walk_at "st")
        refine ⟨_, _, rfl, (by walk_at "side"), (by first | decide | decide +kernel | assumption), (by walk_at "rok"), fun d4 G4 dl4 dh4 r4 o4 => ?_⟩
        repeat (walk_at "st")
        refine ⟨_, _, rfl, (by walk_at "side"), (by first | decide | decide +kernel | assumption), (by walk_at "rok"), fun d5 G5 dl5 dh5 r5 o5 => ?_⟩
        obtain ⟨c, hc, ec⟩ := atN_lt (xs := (Str.ofString "AZ09_- .:,\n{~").cps.toList) dl5 dh5
        have hc2 : c < 1114112 := (by decide +kernel : ∀ c ∈ (Str.ofString "AZ09_- .:,\n{~").cps.toList, c < 1114112) c hc
        repeat (walk_at "st")
        have k1 := (hj2.cut none (some d4)).app (okS.one hc2)
        have k1z : (cutS (Txt.join (Str.ofString "") zs) none (some d4)).length + (⟨#[c]⟩ : Str).length ≤ sizeLine := by rw [← Str.length_append]; exact k1.line (by decide)
        repeat (walk_at "st")
        refine ⟨_, _, rfl, (by walk_at "side"), (by first | decide | decide +kernel | assumption), (by walk_at "rok"), fun d6 G6 dl6 dh6 r6 o6 => ?_⟩
        have k2 := k1.app (hj2.cut (some (d4 + d6)) none)
        have k2z : (cutS (Txt.join (Str.ofString "") zs) none (some d4) ++ (⟨#[c]⟩ : Str)).length + (cutS (Txt.join (Str.ofString "") zs) (some (d4 + d6)) none).length ≤ sizeLine := by rw [← Str.length_append]; exact k2.line (by decide)
        repeat (walk_at "st")
        exact q _ _ ⟨_, rfl, k2.mono (by decide)⟩ r6 (by walk_at "off")
end
end KX

namespace KX
open PySem PySem.Spec PyProof.Rows L2
local macro_rules | `(tactic| walk_at "kp") => `(tactic| first
  | with_reducible exact Kp.refl
  | with_reducible exact Kp.thenS (by assumption) (by walk_at "kp")
  | with_reducible exact Kp.thenO (by assumption) (by walk_at "ne") (by walk_at "kp")
  | fail)
local macro_rules | `(tactic| walk_at "hq") => `(tactic| first
  | assumption
  | with_reducible exact Kp.get (by assumption) (by walk_at "kp")
  | fail)
local macro_rules | `(tactic| walk_at "hg") => `(tactic| first
  | walk_at "hq"
  | exact upd_same
  | with_reducible exact (upd_ne (by walk_at "ne")).trans (by walk_at "hg")
  | with_reducible exact Same.get (by assumption) (by walk_at "hg")
  | with_reducible exact Off.get (by assumption) (by walk_at "ne") (by walk_at "hg")
  | fail)
local macro_rules | `(tactic| walk_at "ne") => `(tactic| first
  | assumption
  | (apply Ne.symm; assumption)
  | exact Rok.ne' (by assumption) (by walk_at "rok")
  | exact (Rok.ne' (by assumption) (by walk_at "rok")).symm
  | exact ne_some (by assumption) (by walk_at "hg")
  | exact (ne_some (by assumption) (by walk_at "hg")).symm
  | fail)
local macro_rules | `(tactic| walk_at "rok") => `(tactic| first
  | assumption
  | with_reducible exact Rok.kp (by assumption) (by walk_at "kp")
  | with_reducible exact Rok.same (by assumption) (by walk_at "rok")
  | fail)
local macro_rules | `(tactic| walk_at "sq") => `(tactic| first
  | assumption
  | with_reducible exact SqL.of (by walk_at "hg")
  | with_reducible exact SqT.of (by walk_at "hg")
  | fail)
local macro_rules | `(tactic| walk_at "dac") => `(tactic| first
  | assumption
  | exact DaF.same (by assumption) (by walk_at "dac")
  | fail)
local macro_rules | `(tactic| walk_at "da") => `(tactic| first
  | exact (DaF.non : DaS _ _ _ _)
  | exact (DaF.bl _ : DaS _ _ _ _)
  | exact (DaF.int _ : DaS _ _ _ _)
  | exact (DaF.str _ : DaS _ _ _ _)
  | exact DaF.non
  | exact DaF.bl _
  | exact DaF.int _
  | exact DaF.str _
  | walk_at "dac"
  | with_reducible exact DaF.lst (SqL.of (by walk_at "hq")) (fun _ => by assumption) (by walk_at "das")
  | with_reducible exact Da.lst (SqL.of (by walk_at "hq")) (by walk_at "das")
  | with_reducible exact DaF.tup (SqT.of (by walk_at "hq")) (by walk_at "das")
  | with_reducible exact DaF.dic (Rd.of (by walk_at "hq")) (by walk_at "dak")
  | fail)
local macro_rules | `(tactic| walk_at "das") => `(tactic| first
  | assumption
  | exact DaAllF.nil
  | exact DaAllF.cons (by walk_at "da") (by walk_at "das")
  | fail)
local macro_rules | `(tactic| walk_at "dak") => `(tactic| first
  | assumption
  | exact DaKvF.nil
  | exact DaKvF.cons (by walk_at "da") (by walk_at "dak")
  | fail)
local macro_rules | `(tactic| walk_at "shw") => `(tactic| first
  | assumption
  | exact shw_b2 _ _
  | exact ⟨by decide +kernel, by decide +kernel, by decide +kernel⟩
  | fail)
local macro_rules | `(tactic| walk_at "nod") => `(tactic| first
  | exact .inl rfl
  | exact .inr rfl
  | assumption
  | exact .inr (by assumption)
  | fail)
local macro_rules | `(tactic| walk_at "okd") => `(tactic| first
  | assumption
  | exact okd_of (by decide +kernel)
  | fail)
local macro_rules | `(tactic| walk_at "off") => `(tactic| first
  | assumption
  | exact Off.refl _ _
  | exact Same.refl _
  | with_reducible exact Same.thenS (by assumption) (by walk_at "off")
  | with_reducible exact Off.thenS (by assumption) (by walk_at "off")
  | with_reducible exact Off.thenO (by assumption) (by walk_at "off")
  | with_reducible exact Same.thenF (by assumption) (by assumption) (by walk_at "off") (by walk_at "off")
  | with_reducible exact Off.thenF (by assumption) (by assumption) (by walk_at "off") (by walk_at "off")
  | fail)
local macro_rules | `(tactic| walk_at "side") => `(tactic| first
  | assumption
  | omega
  | decide
  | (simp only [List.length_cons, List.length_nil]; decide)
  | exact ⟨by omega, by omega⟩
  | exact ⟨by omega, PyProof.noPylong_of_log2 (by first | assumption | decide)⟩
  | exact .inl ⟨by omega, by omega⟩
  | exact .inr ⟨by omega, by omega⟩
  | exact ⟨by decide, by decide, by decide⟩
  | exact ⟨by decide, by decide, by omega⟩
  | fail)
local macro_rules | `(tactic| walk_at "st") => `(tactic| first
  | with_reducible refine i_seq ?_
  | with_reducible refine i_asg ?_
  | with_reducible refine i_c ?_
  | ((with_reducible refine' i_var ?h ?_); (case h => rfl))
  | with_reducible refine i_op ?_
  | with_reducible refine i_cons ?_
  | with_reducible refine i_nil ?_
  | ((with_reducible refine' i_gName ?h ?_); (case h => rfl))
  | with_reducible refine i_rI0 ?_
  | ((with_reducible refine i_rI ?h ?_); (case h => walk_at "side"))
  | with_reducible refine i_test ?_
  | with_reducible refine i_exbl ?_
  | with_reducible refine i_exint ?_
  | with_reducible refine i_exs ?_
  | with_reducible refine i_ret ?_
  | with_reducible refine i_next ?_
  | with_reducible refine i_ifS ?_
  | ((with_reducible refine' i_rIxL ?h ?e ?_); (case h => walk_at "sq"); (case e => first | assumption | rfl))
  | ((with_reducible refine' i_rIxT ?h ?e ?_); (case h => walk_at "sq"); (case e => first | assumption | rfl))
  | ((with_reducible refine' i_rIxS ?h ?e ?_); (case h => walk_at "side"); (case e => first | assumption | rfl))
  | with_reducible refine i_un ?_
  | with_reducible refine i_rU ?_
  | ((with_reducible refine i_rEqSame ?h ?_); (case h => rfl))
  | ((with_reducible refine i_rNeSame ?h ?_); (case h => rfl))
  | ((with_reducible refine i_rEq ?h ?_); (case h => rfl))
  | ((with_reducible refine i_rNe ?h ?_); (case h => rfl))
  | with_reducible refine i_tB ?_
  | with_reducible refine i_and ?_
  | with_reducible refine i_or ?_
  | with_reducible refine i_not ?_
  | with_reducible refine i_andV ?_
  | with_reducible refine i_orV ?_
  | with_reducible refine i_notV ?_
  | with_reducible refine i_if ?_
  | with_reducible refine i_chain ?_
  | with_reducible refine i_drop ?_
  | with_reducible refine i_retN ?_
  | with_reducible refine i_par ?_
  | with_reducible refine i_ex2 ?_
  | ((with_reducible refine' i_aug ?h ?_); (case h => rfl))
  | with_reducible refine i_gNil ?_
  | with_reducible refine i_gCons ?_
  | ((with_reducible refine' i_gTup ?h ?e ?_); (case h => walk_at "sq"); (case e => rfl))
  | with_reducible refine i_gSub ?_
  | ((with_reducible refine' i_rSetL ?h ?e ?_); (case h => walk_at "hg"); (case e => first | assumption | rfl))
  | with_reducible refine i_tup ?_
  | with_reducible refine i_lst ?_
  | with_reducible refine i_lstN ?_
  | with_reducible refine i_newDK ?_
  | with_reducible refine i_disp ?_
  | with_reducible refine i_pairs0 ?_
  | with_reducible refine i_pairs1 ?_
  | with_reducible refine i_call ?_
  | with_reducible refine i_cb ?_
  | with_reducible refine i_bm ?_
  | with_reducible refine i_m1 ?_
  | with_reducible refine i_m0 ?_
  | ((with_reducible refine' i_rAppend ?h ?e ?_); (case h => walk_at "hg"); (case e => walk_at "side"))
  | ((with_reducible refine i_rSlS ?h ?_); (case h => walk_at "side"))
  | ((with_reducible refine' i_rSlL ?h ?_); (case h => walk_at "sq"))
  | with_reducible refine i_sl ?_
  | with_reducible refine i_noPart ?_
  | with_reducible refine i_part ?_
  | with_reducible refine i_rng1 ?_
  | with_reducible refine i_iList ?_
  | with_reducible refine i_iStr ?_
  | ((with_reducible refine i_exrng ?h1 ?h2 ?_); (case h1 => walk_at "side"); (case h2 => walk_at "side"))
  | ((with_reducible refine' i_exl ?h ?_); (case h => walk_at "sq"))
  | with_reducible refine i_for ?_
  | with_reducible refine i_lc ?_
  | with_reducible refine i_yes ?_
  | with_reducible refine i_iteT ?_
  | with_reducible refine i_iteF ?_
  | ((with_reducible refine i_divmod ?h ?_); (case h => walk_at "side"))
  | ((with_reducible refine' i_isi ?h ?e ?_); (case h => walk_at "da"); (case e => decide))
  | ((with_reducible refine i_lenS ?h ?_); (case h => walk_at "side"))
  | ((with_reducible refine' i_lenL ?h ?_); (case h => walk_at "sq"))
  | ((with_reducible refine' i_lenT ?h ?_); (case h => walk_at "sq"))
  | ((with_reducible refine' i_repr ?h ?n ?e ?_); (case h => walk_at "da"); (case n => walk_at "nod"); (case e => walk_at "shw"))
  | ((with_reducible refine' i_rCat ?h ?e ?z ?_); (case h => walk_at "hg"); (case e => walk_at "hg"); (case z => walk_at "side"))
  | ((with_reducible refine i_rCatS ?h ?_); (case h => walk_at "side"))
  | with_reducible refine i_exstr ?_
  | ((with_reducible refine' i_join ?h ?z ?_); (case h => walk_at "sq"); (case z => walk_at "side"))
  | with_reducible refine i_abs ?_
  | with_reducible refine i_max ?_
  | with_reducible refine i_min ?_
  | ((with_reducible refine' i_rAll ?h ?_); (case h => walk_at "sq"))
  | ((with_reducible refine' i_lcEl ?h ?e ?_); (case h => walk_at "hg"); (case e => walk_at "side"))
  | with_reducible refine ⟨_, _, rfl, rfl, ?_⟩
  | with_reducible refine ⟨_, _, rfl, ?_⟩
  | with_reducible refine ⟨_, rfl, ?_⟩
  | with_reducible refine And.intro rfl ?_
  | ((with_reducible refine And.intro ?h ?_); (case h => walk_at "side"))
  | fail)

section
variable {P : Program} {w : World} {K : PySem.W.Frag} {mg : Str → Option Value} {base : Heap} {A : Ad}
def sp_drawnD (K : PySem.W.Frag) : Sp := fun vs H Q _ => ∃ r, vs = [.ref r] ∧ Rok H r ∧ ∀ v d H', DaS K (wo r H') v d → OkD d → Rok H' r → Off r H H' → Q v H'
theorem ok_l_odd (T : Txt K mg A) (G_l_choice : Fg P w K mg base CX0 2 A.f_l_choice A.d_l_choice ["_law_rng_here", "_law_options"] sp_l_choice) : Fg P w K mg base CX0 3 A.f_l_odd A.d_l_odd ["_law_rng_here"] (sp_drawnD K) := by
  refine ok_g T.F_l_odd sc_l_odd (fun vs H Q E h => ?_) (fun cdv Ar outer s H vs Q E hr h => ?_)
  · obtain ⟨_, rfl, _⟩ := h; rfl
  · obtain ⟨r, rfl, hR, q⟩ := h
    refine ⟨_, (pss_cons (ps_set (i := 1) sc_l_odd.nd rfl (.inl rfl) (pe_litL (LitAll.cons Lit.non (LitAll.cons Lit.bl (LitAll.cons Lit.bl (LitAll.cons Lit.str (LitAll.cons (Lit.lst LitAll.nil (by decide)) (LitAll.cons (Lit.tup LitAll.nil (by decide)) (LitAll.cons Lit.dic0 (LitAll.cons (Lit.lst (LitAll.cons Lit.int LitAll.nil) (by decide)) (LitAll.cons (Lit.tup (LitAll.cons Lit.int LitAll.nil) (by decide)) (LitAll.cons (Lit.dicI Lit.int) (LitAll.cons (Lit.lst (LitAll.cons Lit.str LitAll.nil) (by decide)) (LitAll.cons (Lit.tup (LitAll.cons Lit.str LitAll.nil) (by decide)) (LitAll.cons (Lit.dicS Lit.int) (LitAll.cons (Lit.lst (LitAll.cons (Lit.lst LitAll.nil (by decide)) LitAll.nil) (by decide)) (LitAll.cons (Lit.tup (LitAll.cons (Lit.tup LitAll.nil (by decide)) LitAll.nil) (by decide)) (LitAll.cons (Lit.lst (LitAll.cons Lit.non LitAll.nil) (by decide)) (LitAll.cons Lit.str LitAll.nil))))))))))))))))) (by decide)))
(pss_one (ps_ret (pe_call G_l_choice (hr.mono (by decide)) (by rfl) T.g_l_choice T.F_l_choice.kp T.b_l_choice .nil pass0 (pa_cons (pv 0) (pa_cons (pe_op op_cat (pv 1) (pe_litL (LitAll.cons Lit.str (LitAll.cons Lit.str (LitAll.cons Lit.str (LitAll.cons (Lit.tup (LitAll.cons Lit.str (LitAll.cons Lit.int LitAll.nil)) (by decide)) (LitAll.cons (Lit.lst (LitAll.cons Lit.bl LitAll.nil) (by decide)) (LitAll.cons (Lit.tup (LitAll.cons Lit.non LitAll.nil) (by decide)) (LitAll.cons Lit.str (LitAll.cons Lit.str (LitAll.cons Lit.str LitAll.nil))))))))) (by decide))) pa_nil)))))), ?_⟩
    repeat (walk_at "st")
    refine i_litL fun p1 xs1 G1 n1 z1 s1 e1 d1 => ?_
    repeat (walk_at "st")
    refine i_litL fun p2 xs2 G2 n2 z2 s2 e2 d2 => ?_
    repeat (walk_at "st")
    have l1 : xs1.length = 17 := d1.len
    have l2 : xs2.length = 9 := d2.len
    have e1' := s2 _ _ e1
    have hz : xs1.length + xs2.length ≤ sizeLine := by rw [sizeLine_eq]; omega
    repeat (walk_at "st")
    refine i_new fun p3 G3 n3 s3 e3 => ?_
    repeat (walk_at "st")
    obtain ⟨a, b, hr0, hb⟩ := hR
    have hne : p3 ≠ r := fun z => by rw [← z] at hr0; have := (s1.trans s2) _ _ hr0; rw [n3] at this; cases this
    refine ⟨_, _, _, rfl, e3, hne, by rw [List.length_append]; omega, by rw [List.length_append]; omega, ⟨a, b, s3 _ _ (s2 _ _ (s1 _ _ hr0)), hb⟩, fun v G4 hv r4 o4 => ?_⟩
    have dd := (d1.same (newP_mono (s2.trans s3))).app (d2.same ((newP_mono s3).trans (newP_back s1)))
    obtain ⟨d, hd, hda⟩ := dd.mem v hv
    refine q v d _ (hda.same ((newP_wo hr0).trans o4.wo)) (okd_all (by decide +kernel) hd) r4 (by walk_at "off")
def sp_l_right (K : PySem.W.Frag) : Sp := fun vs H Q _ => ∃ v d, vs = [v] ∧ DaS K H v d ∧ OkD d ∧ ∀ H', Same H H' → Q (.bl true) H'
theorem ok_l_right (T : Txt K mg A) (G_is_name : Fg P w K mg base CX0 1 A.f_is_name A.d_is_name ["value"] (sp_data K nameB)) (G_is_version : Fg P w K mg base CX0 2 A.f_is_version A.d_is_version ["value"] (sp_data K verB)) (G_l_is_name : Fg P w K mg base CX0 1 A.f_l_is_name A.d_l_is_name ["_law_value"] (sp_data K nameB)) (G_l_is_version : Fg P w K mg base CX0 1 A.f_l_is_version A.d_l_is_version ["_law_value"] (sp_data K verB)) : Fg P w K mg base CX0 3 A.f_l_right A.d_l_right ["_law_value"] (sp_l_right K) := by
  refine ok_g T.F_l_right sc_l_right (fun vs H Q E h => ?_) (fun cdv Ar outer s H vs Q E hr h => ?_)
  · obtain ⟨_, _, rfl, _⟩ := h; rfl
  · obtain ⟨v, d, rfl, hd, ho, q⟩ := h
    have hsh := ho.sh
    refine ⟨_, (pss_cons (ps_par (i := 1) (j := 2) rfl sc_l_right.nd rfl rfl (by decide) rfl rfl (pa_cons (pe_callB (call_reprN (hr.mono (by decide))) (by rfl) T.m_repr (by decide +kernel) (pa_cons (pv 0) pa_nil)) (pa_cons (pe_lst (pa_cons (pe_call G_l_is_name (hr.mono (by decide)) (by rfl) T.g_l_is_name T.F_l_is_name.kp T.b_l_is_name .nil pass0 (pa_cons (pv 0) pa_nil)) (pa_cons (pe_call G_l_is_version (hr.mono (by decide)) (by rfl) T.g_l_is_version T.F_l_is_version.kp T.b_l_is_version .nil pass0 (pa_cons (pv 0) pa_nil)) pa_nil))) pa_nil)) (by rfl))
(pss_cons (ps_for PassesOwn.never rfl (pi_range1 rfl T.m_range (pa_cons pe_int pa_nil)) (pg_name (i := 3) sc_l_right.nd rfl (.inl rfl))
(pss_one (ps_if (pt_cmpR op_ne (pe_callB (call_reprN (hr.mono (by decide))) (by rfl) T.m_repr (by decide +kernel) (pa_cons (pe_lst (pa_cons (pe_call G_is_name (hr.mono (by decide)) (by rfl) T.g_is_name T.F_is_name.kp T.b_is_name .nil pass0 (pa_cons (pv 0) pa_nil)) (pa_cons (pe_call G_is_version (hr.mono (by decide)) (by rfl) T.g_is_version T.F_is_version.kp T.b_is_version .nil pass0 (pa_cons (pv 0) pa_nil)) pa_nil))) pa_nil)) (pe_callB (call_reprN (hr.mono (by decide))) (by rfl) T.m_repr (by decide +kernel) (pa_cons (pv 2) pa_nil)) (nomark _))
(pss_one (ps_ret pe_bl))
pss_nil)))
(pss_one (ps_ret (pe_cmpR op_eq (pe_callB (call_reprN (hr.mono (by decide))) (by rfl) T.m_repr (by decide +kernel) (pa_cons (pv 0) pa_nil)) (pv 1) (nomark _)))))), ?_⟩
    repeat (walk_at "st")
    refine ⟨_, _, rfl, hd.da, ho.st, fun G1 s1 => ?_⟩
    repeat (walk_at "st")
    refine ⟨_, _, rfl, (hd.same s1).da, ho.st, fun G2 s2 => ?_⟩
    repeat (walk_at "st")
    refine i_new fun p3 G3 n3 s3 e3 => ?_
    have s3' : Same H G3 := s1.trans (s2.trans s3)
    repeat (walk_at "st")
    refine f_wk wk_range (fun i σ H' => Same G3 H' ∧ ∃ y, σ = [some v, some (.str d.shown), some (.ref p3), y]) ⟨Same.refl _, _, rfl⟩ (fun _ _ _ _ => trivial) (fun i x σ H' hx h => ?_) (fun σ H' h => ?_)
    · obtain ⟨sH, y, rfl⟩ := h
      repeat (walk_at "st")
      refine ⟨_, _, rfl, (hd.same (s3'.trans sH)).da, ho.st, fun G4 s4 => ?_⟩
      repeat (walk_at "st")
      refine ⟨_, _, rfl, (hd.same (s3'.trans (sH.trans s4))).da, ho.st, fun G5 s5 => ?_⟩
      repeat (walk_at "st")
      refine i_new fun p6 G6 n6 s6 e6 => ?_
      repeat (walk_at "st")
      repeat (walk_at "st")
      exact ⟨by walk_at "off", _, rfl⟩
    · obtain ⟨sH, y, rfl⟩ := h
      repeat (walk_at "st")
      exact q _ (s3'.trans sH)
end
end KX

namespace KX
open PySem PySem.Spec PyProof.Rows L2
local macro_rules | `(tactic| walk_at "kp") => `(tactic| first
  | with_reducible exact Kp.refl
  | with_reducible exact Kp.thenS (by assumption) (by walk_at "kp")
  | with_reducible exact Kp.thenO (by assumption) (by walk_at "ne") (by walk_at "kp")
  | fail)
local macro_rules | `(tactic| walk_at "hq") => `(tactic| first
  | assumption
  | with_reducible exact Kp.get (by assumption) (by walk_at "kp")
  | fail)
local macro_rules | `(tactic| walk_at "hg") => `(tactic| first
  | walk_at "hq"
  | exact upd_same
  | with_reducible exact (upd_ne (by walk_at "ne")).trans (by walk_at "hg")
  | with_reducible exact Same.get (by assumption) (by walk_at "hg")
  | with_reducible exact Off.get (by assumption) (by walk_at "ne") (by walk_at "hg")
  | fail)
local macro_rules | `(tactic| walk_at "ne") => `(tactic| first
  | assumption
  | (apply Ne.symm; assumption)
  | exact Rok.ne' (by assumption) (by walk_at "rok")
  | exact (Rok.ne' (by assumption) (by walk_at "rok")).symm
  | exact ne_some (by assumption) (by walk_at "hg")
  | exact (ne_some (by assumption) (by walk_at "hg")).symm
  | fail)
local macro_rules | `(tactic| walk_at "rok") => `(tactic| first
  | assumption
  | with_reducible exact Rok.kp (by assumption) (by walk_at "kp")
  | with_reducible exact Rok.same (by assumption) (by walk_at "rok")
  | fail)
local macro_rules | `(tactic| walk_at "sq") => `(tactic| first
  | assumption
  | with_reducible exact SqL.of (by walk_at "hg")
  | with_reducible exact SqT.of (by walk_at "hg")
  | fail)
local macro_rules | `(tactic| walk_at "dac") => `(tactic| first
  | assumption
  | exact DaF.same (by assumption) (by walk_at "dac")
  | fail)
local macro_rules | `(tactic| walk_at "da") => `(tactic| first
  | exact (DaF.non : DaS _ _ _ _)
  | exact (DaF.bl _ : DaS _ _ _ _)
  | exact (DaF.int _ : DaS _ _ _ _)
  | exact (DaF.str _ : DaS _ _ _ _)
  | exact DaF.non
  | exact DaF.bl _
  | exact DaF.int _
  | exact DaF.str _
  | walk_at "dac"
  | with_reducible exact DaF.lst (SqL.of (by walk_at "hq")) (fun _ => by assumption) (by walk_at "das")
  | with_reducible exact Da.lst (SqL.of (by walk_at "hq")) (by walk_at "das")
  | with_reducible exact DaF.tup (SqT.of (by walk_at "hq")) (by walk_at "das")
  | with_reducible exact DaF.dic (Rd.of (by walk_at "hq")) (by walk_at "dak")
  | fail)
local macro_rules | `(tactic| walk_at "das") => `(tactic| first
  | assumption
  | exact DaAllF.nil
  | exact DaAllF.cons (by walk_at "da") (by walk_at "das")
  | fail)
local macro_rules | `(tactic| walk_at "dak") => `(tactic| first
  | assumption
  | exact DaKvF.nil
  | exact DaKvF.cons (by walk_at "da") (by walk_at "dak")
  | fail)
local macro_rules | `(tactic| walk_at "shw") => `(tactic| first
  | assumption
  | exact shw_b2 _ _
  | exact ⟨by decide +kernel, by decide +kernel, by decide +kernel⟩
  | fail)
local macro_rules | `(tactic| walk_at "nod") => `(tactic| first
  | exact .inl rfl
  | exact .inr rfl
  | assumption
  | exact .inr (by assumption)
  | fail)
local macro_rules | `(tactic| walk_at "okd") => `(tactic| first
  | assumption
  | exact okd_of (by decide +kernel)
  | fail)
local macro_rules | `(tactic| walk_at "off") => `(tactic| first
  | assumption
  | exact Off.refl _ _
  | exact Same.refl _
  | with_reducible exact Same.thenS (by assumption) (by walk_at "off")
  | with_reducible exact Off.thenS (by assumption) (by walk_at "off")
  | with_reducible exact Off.thenO (by assumption) (by walk_at "off")
  | with_reducible exact Same.thenF (by assumption) (by assumption) (by walk_at "off") (by walk_at "off")
  | with_reducible exact Off.thenF (by assumption) (by assumption) (by walk_at "off") (by walk_at "off")
  | fail)
local macro_rules | `(tactic| walk_at "side") => `(tactic| first
  | assumption
  | omega
  | decide
  | (simp only [List.length_cons, List.length_nil]; decide)
  | exact ⟨by omega, by omega⟩
  | exact ⟨by omega, PyProof.noPylong_of_log2 (by first | assumption | decide)⟩
  | exact .inl ⟨by omega, by omega⟩
  | exact .inr ⟨by omega, by omega⟩
  | exact ⟨by decide, by decide, by decide⟩
  | exact ⟨by decide, by decide, by omega⟩
  | fail)
local macro_rules | `(tactic| walk_at "st") => `(tactic| first
  | with_reducible refine i_seq ?_
  | with_reducible refine i_asg ?_
  | with_reducible refine i_c ?_
  | ((with_reducible refine' i_var ?h ?_); (case h => rfl))
  | with_reducible refine i_op ?_
  | with_reducible refine i_cons ?_
  | with_reducible refine i_nil ?_
  | ((with_reducible refine' i_gName ?h ?_); (case h => rfl))
  | with_reducible refine i_rI0 ?_
  | ((with_reducible refine i_rI ?h ?_); (case h => walk_at "side"))
  | with_reducible refine i_test ?_
  | with_reducible refine i_exbl ?_
  | with_reducible refine i_exint ?_
  | with_reducible refine i_exs ?_
  | with_reducible refine i_ret ?_
  | with_reducible refine i_next ?_
  | with_reducible refine i_ifS ?_
  | ((with_reducible refine' i_rIxL ?h ?e ?_); (case h => walk_at "sq"); (case e => first | assumption | rfl))
  | ((with_reducible refine' i_rIxT ?h ?e ?_); (case h => walk_at "sq"); (case e => first | assumption | rfl))
  | ((with_reducible refine' i_rIxS ?h ?e ?_); (case h => walk_at "side"); (case e => first | assumption | rfl))
  | with_reducible refine i_un ?_
  | with_reducible refine i_rU ?_
  | ((with_reducible refine i_rEqSame ?h ?_); (case h => rfl))
  | ((with_reducible refine i_rNeSame ?h ?_); (case h => rfl))
  | ((with_reducible refine i_rEq ?h ?_); (case h => rfl))
  | ((with_reducible refine i_rNe ?h ?_); (case h => rfl))
  | with_reducible refine i_tB ?_
  | with_reducible refine i_and ?_
  | with_reducible refine i_or ?_
  | with_reducible refine i_not ?_
  | with_reducible refine i_andV ?_
  | with_reducible refine i_orV ?_
  | with_reducible refine i_notV ?_
  | with_reducible refine i_if ?_
  | with_reducible refine i_chain ?_
  | with_reducible refine i_drop ?_
  | with_reducible refine i_retN ?_
  | with_reducible refine i_par ?_
  | with_reducible refine i_ex2 ?_
  | ((with_reducible refine' i_aug ?h ?_); (case h => rfl))
  | with_reducible refine i_gNil ?_
  | with_reducible refine i_gCons ?_
  | ((with_reducible refine' i_gTup ?h ?e ?_); (case h => walk_at "sq"); (case e => rfl))
  | with_reducible refine i_gSub ?_
  | ((with_reducible refine' i_rSetL ?h ?e ?_); (case h => walk_at "hg"); (case e => first | assumption | rfl))
  | with_reducible refine i_tup ?_
  | with_reducible refine i_lst ?_
  | with_reducible refine i_lstN ?_
  | with_reducible refine i_newDK ?_
  | with_reducible refine i_disp ?_
  | with_reducible refine i_pairs0 ?_
  | with_reducible refine i_pairs1 ?_
  | with_reducible refine i_call ?_
  | with_reducible refine i_cb ?_
  | with_reducible refine i_bm ?_
  | with_reducible refine i_m1 ?_
  | with_reducible refine i_m0 ?_
  | ((with_reducible refine' i_rAppend ?h ?e ?_); (case h => walk_at "hg"); (case e => walk_at "side"))
  | ((with_reducible refine i_rSlS ?h ?_); (case h => walk_at "side"))
  | ((with_reducible refine' i_rSlL ?h ?_); (case h => walk_at "sq"))
  | with_reducible refine i_sl ?_
  | with_reducible refine i_noPart ?_
  | with_reducible refine i_part ?_
  | with_reducible refine i_rng1 ?_
  | with_reducible refine i_iList ?_
  | with_reducible refine i_iStr ?_
  | ((with_reducible refine i_exrng ?h1 ?h2 ?_); (case h1 => walk_at "side"); (case h2 => walk_at "side"))
  | ((with_reducible refine' i_exl ?h ?_); (case h => walk_at "sq"))
  | with_reducible refine i_for ?_
  | with_reducible refine i_lc ?_
  | with_reducible refine i_yes ?_
  | with_reducible refine i_iteT ?_
  | with_reducible refine i_iteF ?_
  | ((with_reducible refine i_divmod ?h ?_); (case h => walk_at "side"))
  | ((with_reducible refine' i_isi ?h ?e ?_); (case h => walk_at "da"); (case e => decide))
  | ((with_reducible refine i_lenS ?h ?_); (case h => walk_at "side"))
  | ((with_reducible refine' i_lenL ?h ?_); (case h => walk_at "sq"))
  | ((with_reducible refine' i_lenT ?h ?_); (case h => walk_at "sq"))
  | ((with_reducible refine' i_repr ?h ?n ?e ?_); (case h => walk_at "da"); (case n => walk_at "nod"); (case e => walk_at "shw"))
  | ((with_reducible refine' i_rCat ?h ?e ?z ?_); (case h => walk_at "hg"); (case e => walk_at "hg"); (case z => walk_at "side"))
  | ((with_reducible refine i_rCatS ?h ?_); (case h => walk_at "side"))
  | with_reducible refine i_exstr ?_
  | ((with_reducible refine' i_join ?h ?z ?_); (case h => walk_at "sq"); (case z => walk_at "side"))
  | with_reducible refine i_abs ?_
  | with_reducible refine i_max ?_
  | with_reducible refine i_min ?_
  | ((with_reducible refine' i_rAll ?h ?_); (case h => walk_at "sq"))
  | ((with_reducible refine' i_lcEl ?h ?e ?_); (case h => walk_at "hg"); (case e => walk_at "side"))
  | with_reducible refine ⟨_, _, rfl, rfl, ?_⟩
  | with_reducible refine ⟨_, _, rfl, ?_⟩
  | with_reducible refine ⟨_, rfl, ?_⟩
  | with_reducible refine And.intro rfl ?_
  | ((with_reducible refine And.intro ?h ?_); (case h => walk_at "side"))
  | fail)

section
variable {P : Program} {w : World} {K : PySem.W.Frag} {mg : Str → Option Value} {base : Heap} {A : Ad}
def sp_law (K : PySem.W.Frag) : Sp := fun vs H Q _ => ∃ (s : Addr) (ns : List Int), vs = [.ref s] ∧ SqL K H s (ns.map V.int) ∧ ns.length ≤ 63 ∧ ∀ H', Q (.bl true) H'
theorem rangeV_item {lo : Int} {n i : Nat} {x : V} (h : (rangeV lo n)[i]? = some x) : ∃ k : Int, x = .int (lo + k) ∧ 0 ≤ k ∧ k < n := by
  have hi : i < n := by
    have := (List.getElem?_eq_some_iff.mp h).1
    rwa [rangeV_len] at this
  rw [rangeV_get hi] at h
  cases h
  exact ⟨i, rfl, by omega, by omega⟩
theorem okd_int {i : Int} (h : i.natAbs < 2 ^ 200) : OkD (.int i) := .int (log2_lt_1920 (k := 200) h (by decide) (by decide))
theorem ok_law (T : Txt K mg A) : Fg P w K mg base CX0 5 A.f_law A.d_law ["_law_script"] (sp_law K) := by
  have G_l_draw := ok_l_draw (P := P) (w := w) (base := base) T
  have G_l_choice := ok_l_choice T G_l_draw
  have G_l_rng := ok_l_rng (P := P) (w := w) (base := base) T
  have G_is_integer := ok_is_integer (P := P) (w := w) (base := base) T
  have G_is_version := ok_is_version T G_is_integer
  have G_is_name := ok_is_name (P := P) (w := w) (base := base) T
  have G_l_is_version := ok_l_is_version (P := P) (w := w) (base := base) T
  have G_l_is_name := ok_l_is_name (P := P) (w := w) (base := base) T
  have G_l_number := ok_l_number T G_l_draw
  have G_l_text := ok_l_text T G_l_draw
  have G_l_odd := ok_l_odd T G_l_choice
  have G_l_right := ok_l_right T G_is_name G_is_version G_l_is_name G_l_is_version
  refine ok_g T.F_law sc_law (fun vs H Q E h => ?_) (fun cdv Ar outer s H vs Q E hr h => ?_)
  · obtain ⟨_, _, rfl, _⟩ := h; rfl
  · obtain ⟨sc, ns, rfl, hS, hl, q⟩ := h
    refine ⟨_, (pss_cons (ps_for PassesOwn.never rfl (pi_range1 rfl T.m_range (pa_cons (pe_callB (call_max2 rfl) (by rfl) T.m_max (by decide +kernel) (pa_cons pe_int (pa_cons (pe_callB (call_min2 rfl) (by rfl) T.m_min (by decide +kernel) (pa_cons pe_int (pa_cons (pe_callB call_lenN (by rfl) T.m_len (by decide +kernel) (pa_cons (pv 0) pa_nil)) pa_nil))) pa_nil))) pa_nil)) (pg_name (i := 1) sc_law.nd rfl (.inl rfl))
(pss_cons (ps_set (i := 2) sc_law.nd rfl (.inl rfl) (pe_call G_l_rng (hr.mono (by decide)) (by rfl) T.g_l_rng T.F_l_rng.kp T.b_l_rng .nil pass0 (pa_cons (pv 0) (pa_cons (pv 1) pa_nil))))
(pss_one (ps_for PassesOwn.never rfl (pi_range1 rfl T.m_range (pa_cons pe_int pa_nil)) (pg_name (i := 3) sc_law.nd rfl (.inl rfl))
(pss_cons (ps_set (i := 4) sc_law.nd rfl (.inl rfl) (pe_lst (pa_cons (pe_call G_l_text (hr.mono (by decide)) (by rfl) T.g_l_text T.F_l_text.kp T.b_l_text .nil pass0 (pa_cons (pv 2) pa_nil)) (pa_cons (pe_call G_l_number (hr.mono (by decide)) (by rfl) T.g_l_number T.F_l_number.kp T.b_l_number .nil pass0 (pa_cons (pv 2) pa_nil)) (pa_cons (pe_call G_l_odd (hr.mono (by decide)) (by rfl) T.g_l_odd T.F_l_odd.kp T.b_l_odd .nil pass0 (pa_cons (pv 2) pa_nil)) pa_nil)))))
(pss_one (ps_if (pt_not (pt_val (pe_callB (cr_all rfl) (by rfl) T.m_all (by decide +kernel) (pa_cons (pe_lc (own := [("_law_value", 5)]) rfl sc_law.nd (pi_list (pv 4)) (blkOk_by (own := [("_law_value", 5)]) (N := ["_law_script", "_law_k", "_law_rng_here", "_law_turn", "_law_some", "_law_value"]) (sc := defScope s_law) (by decide +kernel)) (fun _ _ _ _ _ => (pg_name (i := 5) sc_law.nd rfl (.inl rfl))) (fun _ _ _ _ _ => pts_nil) (fun _ _ _ _ _ => (pe_call G_l_right (hr.mono (by decide)) (by rfl) T.g_l_right T.F_l_right.kp T.b_l_right .nil pass0 (pa_cons (pv 5) pa_nil)))) pa_nil))))
(pss_one (ps_ret pe_bl))
pss_nil)))))))
(pss_one (ps_ret pe_bl))), ?_⟩
    have hz : ns.length ≤ sizeLine := Nat.le_trans hl (by decide)
    repeat (walk_at "st")
    refine f_wk wk_range (fun i σ H' => Same H H' ∧ ∃ y1 y2 y3 y4 y5, σ = [some (.ref sc), y1, y2, y3, y4, y5]) ⟨Same.refl _, _, _, _, _, _, rfl⟩ (fun _ _ _ _ => trivial) (fun i x σ H' hx h => ?_) (fun σ H' h => ?_)
    · obtain ⟨sH, y1, y2, y3, y4, y5, rfl⟩ := h
      obtain ⟨k, rfl, hk⟩ := rangeV_item hx
      repeat (walk_at "st")
      refine ⟨_, _, _, rfl, sH.seq hS, by omega, by (revert hk; split <;> split <;> omega), hl, fun p G1 n1 r1 s1 => ?_⟩
      repeat (walk_at "st")
      refine f_wk wk_range (fun i σ H2 => Off p G1 H2 ∧ Rok H2 p ∧ ∃ y3 y4 y5, σ = [some (.ref sc), some (.int (0 + k)), some (.ref p), y3, y4, y5]) ⟨Off.refl _ _, r1, _, _, _, rfl⟩ (fun _ _ _ _ => trivial) (fun i2 x2 σ H2 hx2 h2 => ?_) (fun σ H2 h2 => ?_)
      · obtain ⟨o2, r2, y3, y4, y5, rfl⟩ := h2
        repeat (walk_at "st")
        refine ⟨_, rfl, r2, fun v3 G3 hv3 r3 o3 => ?_⟩
        obtain ⟨x3, rfl, k3⟩ := hv3
        repeat (walk_at "st")
        refine ⟨_, rfl, r3, fun v4 G4 hv4 r4 o4 => ?_⟩
        obtain ⟨i4, rfl, k4⟩ := hv4
        repeat (walk_at "st")
        refine ⟨_, rfl, r4, fun v5 d5 G5 hd5 k5 r5 o5 => ?_⟩
        repeat (walk_at "st")
        refine i_new fun p6 G6 n6 s6 e6 => ?_
        repeat (walk_at "st")
        have all3 : ∀ y ∈ [V.str x3, V.int i4, v5], ∃ d, DaS K G6 y d ∧ OkD d := by
          simp only [List.mem_cons, List.not_mem_nil, or_false, forall_eq_or_imp, forall_eq]
          exact ⟨⟨_, DaF.str _, .str k3 (by omega)⟩, ⟨_, DaF.int _, okd_int k4⟩, ⟨_, hd5.same (wo_same.trans s6), k5⟩⟩
        refine ⟨⟨_, SqL.of e6⟩, ?_⟩
        refine l_map wk_list (fun _ => .bl true) (by rw [sizeLine_eq]; show 3 < _; decide) (fun H' s => SqL.of (s _ _ e6)) (fun i7 x7 H7 R7 hx7 s7 hR7 => ?_) (fun D8 H8 n8 s8 e8 => ?_)
        · obtain ⟨d7, hd7, k7⟩ := all3 _ (List.mem_of_getElem? hx7)
          repeat (walk_at "st")
          refine ⟨_, _, rfl, hd7.same s7, k7, fun H9 s9 => ?_⟩
          exact hR7 _ s9
        · have e8' : H8 D8 = some (.lst ([true, true, true].map V.bl)) := e8
          repeat (walk_at "st")
          refine i_ff (by rfl) ?_
          repeat (walk_at "st")
          exact ⟨by walk_at "off", by walk_at "rok", _, _, _, rfl⟩
      · obtain ⟨o2, r2, y3, y4, y5, rfl⟩ := h2
        repeat (walk_at "st")
        exact ⟨sH.trans (Off.new n1 s1 o2), _, _, _, _, _, rfl⟩
    · obtain ⟨sH, y1, y2, y3, y4, y5, rfl⟩ := h
      repeat (walk_at "st")
      exact q _
theorem sp_law_of {K : PySem.W.Frag} {H : Hp} {a : Addr} {ns : List Int} (hl : ns.length ≤ 63) (_ : ∀ z ∈ ns, Builtin.Int.intBits z ≤ 1048576) (hS : SqL K H a (ns.map V.int)) : sp_law K [.ref a] H (fun v _ => v = .bl true) fun _ _ _ => False := ⟨a, ns, rfl, hS, hl, fun _ => rfl⟩
theorem all_mk {l : PySem.W.OpenLaw} {w : World} {K : PySem.W.Frag} {h : Heap} {mg : Str → Option Value} {fa : Addr} (X : K.In h) (G : h.Ns mainGlobals mg) (hfa : mg "law" = some (.ref fa))
    {f0 : Addr} {od0 an0 : Option Addr} {sl0 : Array (Option Value)} {oc0 kV0 dc0 pm0 cd0 ct0 : Value}
    {f1 : Addr} {od1 an1 : Option Addr} {sl1 : Array (Option Value)} {oc1 kV1 dc1 pm1 cd1 ct1 : Value}
    {f2 : Addr} {od2 an2 : Option Addr} {sl2 : Array (Option Value)} {oc2 kV2 dc2 pm2 cd2 ct2 : Value}
    {f3 : Addr} {od3 an3 : Option Addr} {sl3 : Array (Option Value)} {oc3 kV3 dc3 pm3 cd3 ct3 : Value}
    {f4 : Addr} {od4 an4 : Option Addr} {sl4 : Array (Option Value)} {oc4 kV4 dc4 pm4 cd4 ct4 : Value}
    {f5 : Addr} {od5 an5 : Option Addr} {sl5 : Array (Option Value)} {oc5 kV5 dc5 pm5 cd5 ct5 : Value}
    {f6 : Addr} {od6 an6 : Option Addr} {sl6 : Array (Option Value)} {oc6 kV6 dc6 pm6 cd6 ct6 : Value}
    {f7 : Addr} {od7 an7 : Option Addr} {sl7 : Array (Option Value)} {oc7 kV7 dc7 pm7 cd7 ct7 : Value}
    {f8 : Addr} {od8 an8 : Option Addr} {sl8 : Array (Option Value)} {oc8 kV8 dc8 pm8 cd8 ct8 : Value}
    {f9 : Addr} {od9 an9 : Option Addr} {sl9 : Array (Option Value)} {oc9 kV9 dc9 pm9 cd9 ct9 : Value}
    {f10 : Addr} {od10 an10 : Option Addr} {sl10 : Array (Option Value)} {oc10 kV10 dc10 pm10 cd10 ct10 : Value}
    {f11 : Addr} {od11 an11 : Option Addr} {sl11 : Array (Option Value)} {oc11 kV11 dc11 pm11 cd11 ct11 : Value}
    {f12 : Addr} {od12 an12 : Option Addr} {sl12 : Array (Option Value)} {oc12 kV12 dc12 pm12 cd12 ct12 : Value}
    {t_LETTERS : Tok}
    {t_MAX_LETTERS : Tok}
    (a0 : PySem.W.nsIn K mainGlobals "is_integer" = some (some (.ref f0)))
    (l0 : K.lookup f0 = some ⟨oc0, od0, .func (PySem.W.fnOf "is_integer" "is_integer" (defArgs s_is_integer) (defBody s_is_integer) (defScope s_is_integer) .none kV0 dc0 pm0 an0 cd0 ct0), sl0⟩) (c0 : PySem.W.codeIn K cd0 "is_integer" = true) (k0 : PySem.W.keepIn K (.ref f0) = true)
    (a1 : PySem.W.nsIn K mainGlobals "is_name" = some (some (.ref f1)))
    (l1 : K.lookup f1 = some ⟨oc1, od1, .func (PySem.W.fnOf "is_name" "is_name" (defArgs s_is_name) (defBody s_is_name) (defScope s_is_name) .none kV1 dc1 pm1 an1 cd1 ct1), sl1⟩) (c1 : PySem.W.codeIn K cd1 "is_name" = true) (k1 : PySem.W.keepIn K (.ref f1) = true)
    (a2 : PySem.W.nsIn K mainGlobals "is_version" = some (some (.ref f2)))
    (l2 : K.lookup f2 = some ⟨oc2, od2, .func (PySem.W.fnOf "is_version" "is_version" (defArgs s_is_version) (defBody s_is_version) (defScope s_is_version) .none kV2 dc2 pm2 an2 cd2 ct2), sl2⟩) (c2 : PySem.W.codeIn K cd2 "is_version" = true) (k2 : PySem.W.keepIn K (.ref f2) = true)
    (a3 : PySem.W.nsIn K mainGlobals "_law_rng" = some (some (.ref f3)))
    (l3 : K.lookup f3 = some ⟨oc3, od3, .func (PySem.W.fnOf "_law_rng" "_law_rng" (defArgs s_l_rng) (defBody s_l_rng) (defScope s_l_rng) .none kV3 dc3 pm3 an3 cd3 ct3), sl3⟩) (c3 : PySem.W.codeIn K cd3 "_law_rng" = true) (k3 : PySem.W.keepIn K (.ref f3) = true)
    (a4 : PySem.W.nsIn K mainGlobals "_law_draw" = some (some (.ref f4)))
    (l4 : K.lookup f4 = some ⟨oc4, od4, .func (PySem.W.fnOf "_law_draw" "_law_draw" (defArgs s_l_draw) (defBody s_l_draw) (defScope s_l_draw) .none kV4 dc4 pm4 an4 cd4 ct4), sl4⟩) (c4 : PySem.W.codeIn K cd4 "_law_draw" = true) (k4 : PySem.W.keepIn K (.ref f4) = true)
    (a5 : PySem.W.nsIn K mainGlobals "_law_choice" = some (some (.ref f5)))
    (l5 : K.lookup f5 = some ⟨oc5, od5, .func (PySem.W.fnOf "_law_choice" "_law_choice" (defArgs s_l_choice) (defBody s_l_choice) (defScope s_l_choice) .none kV5 dc5 pm5 an5 cd5 ct5), sl5⟩) (c5 : PySem.W.codeIn K cd5 "_law_choice" = true) (k5 : PySem.W.keepIn K (.ref f5) = true)
    (a6 : PySem.W.nsIn K mainGlobals "_law_is_name" = some (some (.ref f6)))
    (l6 : K.lookup f6 = some ⟨oc6, od6, .func (PySem.W.fnOf "_law_is_name" "_law_is_name" (defArgs s_l_is_name) (defBody s_l_is_name) (defScope s_l_is_name) .none kV6 dc6 pm6 an6 cd6 ct6), sl6⟩) (c6 : PySem.W.codeIn K cd6 "_law_is_name" = true) (k6 : PySem.W.keepIn K (.ref f6) = true)
    (a7 : PySem.W.nsIn K mainGlobals "_law_is_version" = some (some (.ref f7)))
    (l7 : K.lookup f7 = some ⟨oc7, od7, .func (PySem.W.fnOf "_law_is_version" "_law_is_version" (defArgs s_l_is_version) (defBody s_l_is_version) (defScope s_l_is_version) .none kV7 dc7 pm7 an7 cd7 ct7), sl7⟩) (c7 : PySem.W.codeIn K cd7 "_law_is_version" = true) (k7 : PySem.W.keepIn K (.ref f7) = true)
    (a8 : PySem.W.nsIn K mainGlobals "_law_text" = some (some (.ref f8)))
    (l8 : K.lookup f8 = some ⟨oc8, od8, .func (PySem.W.fnOf "_law_text" "_law_text" (defArgs s_l_text) (defBody s_l_text) (defScope s_l_text) .none kV8 dc8 pm8 an8 cd8 ct8), sl8⟩) (c8 : PySem.W.codeIn K cd8 "_law_text" = true) (k8 : PySem.W.keepIn K (.ref f8) = true)
    (a9 : PySem.W.nsIn K mainGlobals "_law_number" = some (some (.ref f9)))
    (l9 : K.lookup f9 = some ⟨oc9, od9, .func (PySem.W.fnOf "_law_number" "_law_number" (defArgs s_l_number) (defBody s_l_number) (defScope s_l_number) .none kV9 dc9 pm9 an9 cd9 ct9), sl9⟩) (c9 : PySem.W.codeIn K cd9 "_law_number" = true) (k9 : PySem.W.keepIn K (.ref f9) = true)
    (a10 : PySem.W.nsIn K mainGlobals "_law_odd" = some (some (.ref f10)))
    (l10 : K.lookup f10 = some ⟨oc10, od10, .func (PySem.W.fnOf "_law_odd" "_law_odd" (defArgs s_l_odd) (defBody s_l_odd) (defScope s_l_odd) .none kV10 dc10 pm10 an10 cd10 ct10), sl10⟩) (c10 : PySem.W.codeIn K cd10 "_law_odd" = true) (k10 : PySem.W.keepIn K (.ref f10) = true)
    (a11 : PySem.W.nsIn K mainGlobals "_law_right" = some (some (.ref f11)))
    (l11 : K.lookup f11 = some ⟨oc11, od11, .func (PySem.W.fnOf "_law_right" "_law_right" (defArgs s_l_right) (defBody s_l_right) (defScope s_l_right) .none kV11 dc11 pm11 an11 cd11 ct11), sl11⟩) (c11 : PySem.W.codeIn K cd11 "_law_right" = true) (k11 : PySem.W.keepIn K (.ref f11) = true)
    (a12 : PySem.W.nsIn K mainGlobals "law" = some (some (.ref f12)))
    (l12 : K.lookup f12 = some ⟨oc12, od12, .func (PySem.W.fnOf "law" "law" (defArgs s_law) (defBody s_law) (defScope s_law) .none kV12 dc12 pm12 an12 cd12 ct12), sl12⟩) (c12 : PySem.W.codeIn K cd12 "law" = true) (k12 : PySem.W.keepIn K (.ref f12) = true)
    (q_LETTERS : PySem.W.nsIn K mainGlobals "LETTERS" = some (some (.str "abcdefghijklmnopqrstuvwxyz" t_LETTERS)))
    (q_MAX_LETTERS : PySem.W.nsIn K mainGlobals "MAX_LETTERS" = some (some (.int (8) t_MAX_LETTERS)))
    (z_abs : PySem.W.nsIn K mainGlobals "abs" = some none)
    (z_all : PySem.W.nsIn K mainGlobals "all" = some none)
    (z_bool : PySem.W.nsIn K mainGlobals "bool" = some none)
    (z_divmod : PySem.W.nsIn K mainGlobals "divmod" = some none)
    (z_int : PySem.W.nsIn K mainGlobals "int" = some none)
    (z_isinstance : PySem.W.nsIn K mainGlobals "isinstance" = some none)
    (z_len : PySem.W.nsIn K mainGlobals "len" = some none)
    (z_max : PySem.W.nsIn K mainGlobals "max" = some none)
    (z_min : PySem.W.nsIn K mainGlobals "min" = some none)
    (z_range : PySem.W.nsIn K mainGlobals "range" = some none)
    (z_repr : PySem.W.nsIn K mainGlobals "repr" = some none)
    (z_str : PySem.W.nsIn K mainGlobals "str" = some none) :
    ∃ fd : FuncData, (∀ (s : Shared) (v : Value), BindsTo s fd ⟨[v], []⟩ [("_law_script", v)]) ∧ ∀ base : Heap, K.In base → base.Ns mainGlobals mg → Fg l.prog w K mg base CX0 5 fa fd ["_law_script"] (sp_law K) := by
  have e := hfa.symm.trans (PySem.W.mg_of X G a12)
  cases e
  have F0 := fun_mk (st := s_is_integer) l0 c0 k0
  have F1 := fun_mk (st := s_is_name) l1 c1 k1
  have F2 := fun_mk (st := s_is_version) l2 c2 k2
  have F3 := fun_mk (st := s_l_rng) l3 c3 k3
  have F4 := fun_mk (st := s_l_draw) l4 c4 k4
  have F5 := fun_mk (st := s_l_choice) l5 c5 k5
  have F6 := fun_mk (st := s_l_is_name) l6 c6 k6
  have F7 := fun_mk (st := s_l_is_version) l7 c7 k7
  have F8 := fun_mk (st := s_l_text) l8 c8 k8
  have F9 := fun_mk (st := s_l_number) l9 c9 k9
  have F10 := fun_mk (st := s_l_odd) l10 c10 k10
  have F11 := fun_mk (st := s_l_right) l11 c11 k11
  have F12 := fun_mk (st := s_law) l12 c12 k12
  have b0 := F0.binds (ps := ["value"]) fun _ _ _ _ _ _ us hl => match us, hl with | [_], _ => rfl
  have b1 := F1.binds (ps := ["value"]) fun _ _ _ _ _ _ us hl => match us, hl with | [_], _ => rfl
  have b2 := F2.binds (ps := ["value"]) fun _ _ _ _ _ _ us hl => match us, hl with | [_], _ => rfl
  have b3 := F3.binds (ps := ["_law_script", "_law_k"]) fun _ _ _ _ _ _ us hl => match us, hl with | [_, _], _ => rfl
  have b4 := F4.binds (ps := ["_law_rng_here", "_law_many"]) fun _ _ _ _ _ _ us hl => match us, hl with | [_, _], _ => rfl
  have b5 := F5.binds (ps := ["_law_rng_here", "_law_options"]) fun _ _ _ _ _ _ us hl => match us, hl with | [_, _], _ => rfl
  have b6 := F6.binds (ps := ["_law_value"]) fun _ _ _ _ _ _ us hl => match us, hl with | [_], _ => rfl
  have b7 := F7.binds (ps := ["_law_value"]) fun _ _ _ _ _ _ us hl => match us, hl with | [_], _ => rfl
  have b8 := F8.binds (ps := ["_law_rng_here"]) fun _ _ _ _ _ _ us hl => match us, hl with | [_], _ => rfl
  have b9 := F9.binds (ps := ["_law_rng_here"]) fun _ _ _ _ _ _ us hl => match us, hl with | [_], _ => rfl
  have b10 := F10.binds (ps := ["_law_rng_here"]) fun _ _ _ _ _ _ us hl => match us, hl with | [_], _ => rfl
  have b11 := F11.binds (ps := ["_law_value"]) fun _ _ _ _ _ _ us hl => match us, hl with | [_], _ => rfl
  have b12 := F12.binds (ps := ["_law_script"]) fun _ _ _ _ _ _ us hl => match us, hl with | [_], _ => rfl
  have T : Txt K mg ⟨f0, _, f1, _, f2, _, f3, _, f4, _, f5, _, f6, _, f7, _, f8, _, f9, _, f10, _, f11, _, fa, _, t_LETTERS, t_MAX_LETTERS⟩ := {
    F_is_integer := F0,
    g_is_integer := PySem.W.mg_of X G a0,
    b_is_integer := b0,
    F_is_name := F1,
    g_is_name := PySem.W.mg_of X G a1,
    b_is_name := b1,
    F_is_version := F2,
    g_is_version := PySem.W.mg_of X G a2,
    b_is_version := b2,
    F_l_rng := F3,
    g_l_rng := PySem.W.mg_of X G a3,
    b_l_rng := b3,
    F_l_draw := F4,
    g_l_draw := PySem.W.mg_of X G a4,
    b_l_draw := b4,
    F_l_choice := F5,
    g_l_choice := PySem.W.mg_of X G a5,
    b_l_choice := b5,
    F_l_is_name := F6,
    g_l_is_name := PySem.W.mg_of X G a6,
    b_l_is_name := b6,
    F_l_is_version := F7,
    g_l_is_version := PySem.W.mg_of X G a7,
    b_l_is_version := b7,
    F_l_text := F8,
    g_l_text := PySem.W.mg_of X G a8,
    b_l_text := b8,
    F_l_number := F9,
    g_l_number := PySem.W.mg_of X G a9,
    b_l_number := b9,
    F_l_odd := F10,
    g_l_odd := PySem.W.mg_of X G a10,
    b_l_odd := b10,
    F_l_right := F11,
    g_l_right := PySem.W.mg_of X G a11,
    b_l_right := b11,
    F_law := F12,
    g_law := PySem.W.mg_of X G a12,
    b_law := b12,
    c_LETTERS := PySem.W.mg_of X G q_LETTERS,
    c_MAX_LETTERS := PySem.W.mg_of X G q_MAX_LETTERS,
    m_abs := PySem.W.mg_none_of X G z_abs,
    m_all := PySem.W.mg_none_of X G z_all,
    m_bool := PySem.W.mg_none_of X G z_bool,
    m_divmod := PySem.W.mg_none_of X G z_divmod,
    m_int := PySem.W.mg_none_of X G z_int,
    m_isinstance := PySem.W.mg_none_of X G z_isinstance,
    m_len := PySem.W.mg_none_of X G z_len,
    m_max := PySem.W.mg_none_of X G z_max,
    m_min := PySem.W.mg_none_of X G z_min,
    m_range := PySem.W.mg_none_of X G z_range,
    m_repr := PySem.W.mg_none_of X G z_repr,
    m_str := PySem.W.mg_none_of X G z_str }
  exact ⟨_, fun s v => .of_eq rfl, fun base _ _ => ok_law T⟩
end
end KX
open PySem PySem.W PyProof.Rows
set_option maxHeartbeats 0 in
theorem PySem.Challenge.cw_groupsteps_k11_names_and_versions_holds : PySem.Challenge.rw_groupsteps_k11_names_and_versions.Holds := by
  w_on; o_law; k_head; (case hw => w_witness2)
  k_fill
  refine KX.walkG (l := PySem.Challenge.rw_groupsteps_k11_names_and_versions) (n := 63) (k := 5) (x := "_law_script") (CX := fun _ => L2.CX0) (sp := fun w => KX.sp_law _) rfl (by decide) rfl ⟨rfl, by decide, by decide⟩ (fun w h Y => PySem.W.kIn_of Y) ?F (fun _ _ a ns hl hb hS => KX.sp_law_of hl hb hS) (fun _ _ _ _ _ h => h)
  case F =>
    intro w mg fa h inK G hmg
    refine' KX.all_mk inK G hmg ?a0 ?l0 ?c0 ?k0 ?a1 ?l1 ?c1 ?k1 ?a2 ?l2 ?c2 ?k2 ?a3 ?l3 ?c3 ?k3 ?a4 ?l4 ?c4 ?k4 ?a5 ?l5 ?c5 ?k5 ?a6 ?l6 ?c6 ?k6 ?a7 ?l7 ?c7 ?k7 ?a8 ?l8 ?c8 ?k8 ?a9 ?l9 ?c9 ?k9 ?a10 ?l10 ?c10 ?k10 ?a11 ?l11 ?c11 ?k11 ?a12 ?l12 ?c12 ?k12 ?q_LETTERS ?q_MAX_LETTERS ?z_abs ?z_all ?z_bool ?z_divmod ?z_int ?z_isinstance ?z_len ?z_max ?z_min ?z_range ?z_repr ?z_str
    (case a0 => k_is)
    (case l0 => k_is)
    (case c0 => k_is)
    (case k0 => k_is)
    (case a1 => k_is)
    (case l1 => k_is)
    (case c1 => k_is)
    (case k1 => k_is)
    (case a2 => k_is)
    (case l2 => k_is)
    (case c2 => k_is)
    (case k2 => k_is)
    (case a3 => k_is)
    (case l3 => k_is)
    (case c3 => k_is)
    (case k3 => k_is)
    (case a4 => k_is)
    (case l4 => k_is)
    (case c4 => k_is)
    (case k4 => k_is)
    (case a5 => k_is)
    (case l5 => k_is)
    (case c5 => k_is)
    (case k5 => k_is)
    (case a6 => k_is)
    (case l6 => k_is)
    (case c6 => k_is)
    (case k6 => k_is)
    (case a7 => k_is)
    (case l7 => k_is)
    (case c7 => k_is)
    (case k7 => k_is)
    (case a8 => k_is)
    (case l8 => k_is)
    (case c8 => k_is)
    (case k8 => k_is)
    (case a9 => k_is)
    (case l9 => k_is)
    (case c9 => k_is)
    (case k9 => k_is)
    (case a10 => k_is)
    (case l10 => k_is)
    (case c10 => k_is)
    (case k10 => k_is)
    (case a11 => k_is)
    (case l11 => k_is)
    (case c11 => k_is)
    (case k11 => k_is)
    (case a12 => k_is)
    (case l12 => k_is)
    (case c12 => k_is)
    (case k12 => k_is)
    (case q_LETTERS => k_is)
    (case q_MAX_LETTERS => k_is)
    (case z_abs => k_is)
    (case z_all => k_is)
    (case z_bool => k_is)
    (case z_divmod => k_is)
    (case z_int => k_is)
    (case z_isinstance => k_is)
    (case z_len => k_is)
    (case z_max => k_is)
    (case z_min => k_is)
    (case z_range => k_is)
    (case z_repr => k_is)
    (case z_str => k_is)
