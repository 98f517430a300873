import PyProof.Rows.All
import Wide.All
import OpenK.AllK
import Wide.FinOn
import HandS.ForMost
import HandS.IsInst
import HandS.WideBits
import HandS.Wide
import HandS.Flow
import HandS.RaiseMore
import HandS.EndBits
import HandS.ForExc
import HandS.ExcInit
import HandS.ExcIs
import HandS.ExcField
import HandS.TryMany
import KE.KExcInit
import KE.KExcIs
import KE.KExcLine
import KE.RegKIsAll
import HandS.FStr
import HandS.Style
import HandS.Codes
import KE.KRevSl
import PySem.Challenge.RW_groupsteps_k14_window_texts
set_option Elab.async false
set_option linter.all false
set_option maxRecDepth 100000
set_option maxHeartbeats 4000000
namespace KX
open PySem PySem.Spec PyProof.Rows L2

/-! ### calls where the frames' guards are told (repr of containers asks for them) -/
structure Rg (k : Nat) (A : Around) : Prop where
  room : Room k A
  gd : A.guards = some []
theorem Rg.mono {j k : Nat} {A : Around} (r : Rg k A) (h : j ≤ k) : Rg j A := ⟨r.room.mono h, r.gd⟩
theorem Rg.deeper {k : Nat} {A : Around} (r : Rg (k + 1) A) (env : Env) : Rg k (A.deeper env) := ⟨r.room.deeper env, r.gd⟩

structure Fg (P : Program) (w : World) (K : PySem.W.Frag) (mg : Str → Option Value) (base : Heap) (CX : CXT) (k : Nat) (f : Addr) (fd : FuncData) (ps : List Str) (sp : Sp) : Prop where
  len : ∀ vs H Q E, sp vs H Q E → vs.length = ps.length
  run : ∀ (A : Around) (outer : List Env) (s : Shared) (H : Hp) (args : Args) (us : List Value) (vs : List V) (Q : VK) (E : XK), Rg k A → Env0 P w K mg base A outer s H → BindsTo s fd args (ps.zip us) → Vals vs us → sp vs H Q E →
    codeAny (model P w) A (.call (.ref f) args) (CR CX outer P w H s Q E) s
theorem Fg.mono {P : Program} {w : World} {K : PySem.W.Frag} {mg : Str → Option Value} {base : Heap} {CX : CXT} {j k : Nat} {f : Addr} {fd : FuncData} {ps : List Str} {sp : Sp} (F : Fg P w K mg base CX j f fd ps sp) (h : j ≤ k) :
    Fg P w K mg base CX k f fd ps sp := ⟨F.len, fun A outer s H args us vs Q E hr => F.run A outer s H args us vs Q E (hr.mono h)⟩

section
variable {X : Cx} {CX : CXT} {k : Nat} {f C : Addr} {fd : FuncData} {ps : List Str} {sp : Sp} {dvs : List V} {ds : List Value} {E : XK} {x m : Str} {p pos apos : Pos} {e o : Expr} {es : List Expr} {ta : TE} {t : TA}
theorem run_fn {pins : List (Addr × Obj)} {σ : L2.St} {H : Hp} {s : Shared} {Q : VK} {us : List Value} {vs : List V} (F : Fg X.prog X.w X.K X.mg X.base CX k f fd ps sp) (hr : Rg k X.A) (hb : Binds X.K fd ps ds) (hd : Vals dvs ds) (hx : Passes CX X E)
    (I : Inv X pins σ H s) (r : Vals vs us) (h : sp (vs ++ dvs) H Q E) : wpAny (model X.prog X.w) X.A (call (.ref f) us) (EP X pins σ Q) X.xe s := by
  have r2 : Vals (vs ++ dvs) (us ++ ds) := r.append hd
  have hl : (us ++ ds).length = ps.length := by rw [← r2.length]; exact F.len _ _ _ _ h
  refine wpAny_call (codeAny_mono (F.run X.A X.stack s H ⟨us, []⟩ (us ++ ds) (vs ++ dvs) Q E hr I.env0 (hb s us I.kIn hl) r2 h) fun r s' hq => ?_)
  cases r with
  | error e => exact hx pins σ H s e s' I hq
  | ok fl =>
    cases fl with
    | ret u => exact I.after hq
    | next => exact False.elim hq
    | brk => exact False.elim hq
    | cont => exact False.elim hq
theorem pe_call (F : Fg X.prog X.w X.K X.mg X.base CX k f fd ps sp) (hr : Rg k X.A) (hg : Gl X x) (hm : X.mg x = some (.ref f)) (hk : PySem.W.keepIn X.K (.ref f) = true) (hb : Binds X.K fd ps ds) (hd : Vals dvs ds) (hx : Passes CX X E)
    (ha : PA X (e :: es) t) (hdb : (x == ("__debug__" : Str)) = false := by decide) (he : starEach (e :: es) X.env = (false, eval e X.env) :: starEach es X.env := by rfl) (hpl : (backTo pos (starEach es X.env)).any (·.1) = false := by rfl) :
    PE X (.Call (.Name x p) (e :: es) [] pos) (tCall sp dvs E t) := by
  refine ⟨fun pins s σ H Q I h => ?_⟩
  refine wpAny_Call_Name_kw (ld_glob I hg hm ?_ hdb)
  refine PySem.W.callWith_K (h₀ := X.base) I.ok.mod.kin hk (thn (ha.run pos pins s σ H _ I h) fun us s1 ⟨vs, H1, I1, r, q⟩ => ⟨I1.kIn, ?_⟩) he hpl
  exact run_fn F hr hb hd hx I1 r q
theorem pe_call0 (F : Fg X.prog X.w X.K X.mg X.base CX k f fd ps sp) (hr : Rg k X.A) (hg : Gl X x) (hm : X.mg x = some (.ref f)) (hk : PySem.W.keepIn X.K (.ref f) = true) (hb : Binds X.K fd ps ds) (hd : Vals dvs ds) (hx : Passes CX X E)
    (hdb : (x == ("__debug__" : Str)) = false := by decide) : PE X (.Call (.Name x p) [] [] pos) (tCall sp dvs E tNil) := by
  refine ⟨fun pins s σ H Q I h => ?_⟩
  refine wpAny_Call_Name_kw (ld_glob I hg hm ?_ hdb)
  exact PySem.W.callWith_K0 I.kIn hk (run_fn (us := []) F hr hb hd hx I .nil h)
end

theorem fg_of {CX : CXT} {P : Program} {w : World} {K : PySem.W.Frag} {mg : Str → Option Value} {base : Heap} {k : Nat} {f : Addr} {name qual : Str} {params : Arguments} {body : List Stmt} {scope : Scope} {dV kV doc pm cdv ct oc : Value} {an od : Option Addr}
    {osl : Array (Option Value)} {N ps : List Str} {sp : Sp} (lk : K.lookup f = some ⟨oc, od, .func (PySem.W.fnOf name qual params body scope dV kV doc pm an cdv ct), osl⟩) (hcd : PySem.W.codeIn K cdv qual = true) (S : FnScope N ps scope)
    (len : ∀ vs H Q E, sp vs H Q E → vs.length = ps.length)
    (hbody : ∀ (A : Around) (outer : List Env) (s : Shared) (H : Hp) (vs : List V) (Q : VK) (E : XK), Rg k (A.deeper (envOfC qual scope s.heap.objs.size f cdv)) → sp vs H Q E →
      ∃ t, PSs (cxOf CX P w K mg base N qual scope f cdv A outer s H E) body t ∧ t { nx := fun _ H' => Q .non H', rt := Q } (start N vs) H) :
    Fg P w K mg base CX (k + 1) f (PySem.W.fnOf name qual params body scope dV kV doc pm an cdv ct) ps sp := by
  refine ⟨len, fun A outer s H args us vs Q E hrg e0 hb r hsp => ?_⟩
  have hr := hrg.room
  have hl := len _ _ _ _ hsp
  have KX : K.In s.heap := e0.mod.kin.keeps fun b o e => (e0.bs b o e).1
  have lim : s.heap.NoLimit := e0.mod.nolimit.keeps fun b o e => (e0.bs b o e).1
  have hkind : ∀ y ∈ ps.zip us, scope.names.lookup y.1 = some .local ∨ (scope.names.lookup y.1 = some .cell ∧ ((cellsFrom (s.heap.objs.size + 1) scope.names []).lookup y.1).isSome = true) := fun ⟨n, v⟩ hy => by
    rcases S.par n (List.of_mem_zip hy).1 with q | q
    · exact .inl q
    · exact .inr ⟨q, PySem.W.cellsFrom_some _ _ _ (.inl q)⟩
  refine codeAny_call_function hr.depth (KX _ _ lk) rfl S.co S.gen rfl (PySem.W.codeRec_of KX hcd) (hb _ _ _ _ ?_)
  refine wpAny_newFunctionEnv_cells S.kind hkind fun env he s1 x => ?_
  subst he
  refine ⟨lim.keeps x.toInCall.keep, codeAny_func ?_⟩
  obtain ⟨t, ht, hq⟩ := hbody A outer s H vs Q E (hrg.deeper _) hsp
  have I : Inv (cxOf CX P w K mg base N qual scope f cdv A outer s H E) [] (start N vs) H s1 := inv_start S hr.hd e0 hl r x
  refine wpAny_mono (ht.run [] s1 (start N vs) H _ I hq) (fun fl s' hs => ?_) fun e s' hs => hs
  have fin : ∀ {σ' : L2.St} {H' : Hp} {v : V} {u : Value}, Inv (cxOf CX P w K mg base N qual scope f cdv A outer s H E) [] σ' H' s' → RelV v u → Q v H' → CE outer P w H s Q u s' :=
    fun {σ' H' v u} J rv q => ⟨v, H', J.os, J.bare, J.base, J.hok, rv, q⟩
  cases fl with
  | ret u =>
    obtain ⟨v, σ', H', J, rv, q⟩ := hs
    exact fin J rv q
  | next =>
    obtain ⟨σ', H', J, q⟩ := hs
    exact fin (v := V.non) (u := Value.none) J rfl q
  | brk =>
    obtain ⟨_, _, _, q⟩ := hs
    exact False.elim q
  | cont =>
    obtain ⟨_, _, _, q⟩ := hs
    exact False.elim q
section
variable {P : Program} {w : World} {K : PySem.W.Frag} {mg : Str → Option Value} {base : Heap}
theorem ok_g {x qual : Str} {st : Stmt} {f : Addr} {fd : FuncData} {N ps : List Str} {k : Nat} {sp : Sp} (F : Fun K x qual st f fd) (S : FnScope N ps (defScope st)) (len : ∀ vs H Q E, sp vs H Q E → vs.length = ps.length)
    (hbody : ∀ (cdv : Value) (A : Around) (outer : List Env) (s : Shared) (H : Hp) (vs : List V) (Q : VK) (E : XK), Rg k (A.deeper (envOfC qual (defScope st) s.heap.objs.size f cdv)) → sp vs H Q E →
      ∃ t, PSs (cxOf CX0 P w K mg base N qual (defScope st) f cdv A outer s H E).nox (defBody st) t ∧ t { nx := fun _ H' => Q .non H', rt := Q } (start N vs) H) : Fg P w K mg base CX0 (k + 1) f fd ps sp := by
  obtain ⟨oc, od, kV, doc, pm, an, cdv, ct, osl, rfl, lk, hcd⟩ := F.ex
  refine fg_of lk hcd S len fun A outer s H vs Q E hr hsp => ?_
  obtain ⟨t, h, q⟩ := hbody cdv A outer s H vs Q E hr hsp
  exact ⟨t, h.nox, q⟩
theorem ok_gX {x qual : Str} {st : Stmt} {f : Addr} {fd : FuncData} {N ps : List Str} {k : Nat} {sp : Sp} {CX : CXT} (F : Fun K x qual st f fd) (S : FnScope N ps (defScope st)) (len : ∀ vs H Q E, sp vs H Q E → vs.length = ps.length)
    (hbody : ∀ (cdv : Value) (A : Around) (outer : List Env) (s : Shared) (H : Hp) (vs : List V) (Q : VK) (E : XK), Rg k (A.deeper (envOfC qual (defScope st) s.heap.objs.size f cdv)) → sp vs H Q E →
      ∃ t, PSs (cxOf CX P w K mg base N qual (defScope st) f cdv A outer s H E) (defBody st) t ∧ t { nx := fun _ H' => Q .non H', rt := Q } (start N vs) H) : Fg P w K mg base CX (k + 1) f fd ps sp := by
  obtain ⟨oc, od, kV, doc, pm, an, cdv, ct, osl, rfl, lk, hcd⟩ := F.ex
  exact fg_of lk hcd S len fun A outer s H vs Q E hr hsp => hbody cdv A outer s H vs Q E hr hsp
end

/-! ### data at any depth, dicts with int and text keys among them -/
def keyD : Key → PyData
  | .inl i => .int i
  | .inr x => .str x
mutual
inductive DaF (b : Bool) (K : PySem.W.Frag) (H : Hp) : V → PyData → Prop
  | non : DaF b K H .non .none
  | bl (c : Bool) : DaF b K H (.bl c) (.bool c)
  | int (i : Int) : DaF b K H (.int i) (.int i)
  | str (x : Str) : DaF b K H (.str x) (.str x)
  | lst {a : Addr} {xs : List V} {ds : List PyData} : SqL K H a xs → (b = true → a ≠ sysModules) → DaAllF b K H xs ds → DaF b K H (.ref a) (.list ds)
  | tup {a : Addr} {xs : List V} {ds : List PyData} : SqT K H a xs → DaAllF b K H xs ds → DaF b K H (.ref a) (.tuple ds)
  | dic {a : Addr} {kvs : List (Key × V)} {dk : List (PyData × PyData)} : Rd H a (.dK kvs) → DaKvF b K H kvs dk → DaF b K H (.ref a) (.dict dk)
inductive DaAllF (b : Bool) (K : PySem.W.Frag) (H : Hp) : List V → List PyData → Prop
  | nil : DaAllF b K H [] []
  | cons {v : V} {vs : List V} {d : PyData} {ds : List PyData} : DaF b K H v d → DaAllF b K H vs ds → DaAllF b K H (v :: vs) (d :: ds)
inductive DaKvF (b : Bool) (K : PySem.W.Frag) (H : Hp) : List (Key × V) → List (PyData × PyData) → Prop
  | nil : DaKvF b K H [] []
  | cons {k : Key} {v : V} {kvs : List (Key × V)} {d : PyData} {ds : List (PyData × PyData)} : DaF b K H v d → DaKvF b K H kvs ds → DaKvF b K H ((k, v) :: kvs) ((keyD k, d) :: ds)
end
theorem Rd.same {H H' : Hp} {a : Addr} {u : HO} (e : Same H H') (r : Rd H a u) : Rd H' a u := by
  rcases r with r | ⟨o, r⟩
  · exact .inl (e _ _ r)
  · exact .inr ⟨o, e _ _ r⟩
theorem same_seqT {K : PySem.W.Frag} {H H' : Hp} {a : Addr} {xs : List V} (e : Same H H') (h : SqT K H a xs) : SqT K H' a xs := by
  rcases h with h | h
  · exact .inl (Rd.same e h)
  · exact .inr h
mutual
theorem DaF.same {b : Bool} {K : PySem.W.Frag} {H H' : Hp} (e : Same H H') : ∀ {v : V} {d : PyData}, DaF b K H v d → DaF b K H' v d
  | _, _, .non => .non
  | _, _, .bl b => .bl b
  | _, _, .int i => .int i
  | _, _, .str x => .str x
  | _, _, .lst h n a => .lst (e.seq h) n (DaAllF.same e a)
  | _, _, .tup h a => .tup (same_seqT e h) (DaAllF.same e a)
  | _, _, .dic h a => .dic (Rd.same e h) (DaKvF.same e a)
theorem DaAllF.same {b : Bool} {K : PySem.W.Frag} {H H' : Hp} (e : Same H H') : ∀ {vs : List V} {ds : List PyData}, DaAllF b K H vs ds → DaAllF b K H' vs ds
  | _, _, .nil => .nil
  | _, _, .cons a r => .cons (DaF.same e a) (DaAllF.same e r)
theorem DaKvF.same {b : Bool} {K : PySem.W.Frag} {H H' : Hp} (e : Same H H') : ∀ {kvs : List (Key × V)} {ds : List (PyData × PyData)}, DaKvF b K H kvs ds → DaKvF b K H' kvs ds
  | _, _, .nil => .nil
  | _, _, .cons a r => .cons (DaF.same e a) (DaKvF.same e r)
end
/-- the records of a dict read -/
theorem kv_reads {P : Program} {w : World} {h : Heap} {vs : List (Key × Value)} : ∀ {es : List DictEntry} {kvs : List (Key × V)} {dk : List (PyData × PyData)}, Pairs (mixKind P w) es vs → (dk.map (·.1)) = vs.map (fun p => keyD p.1) → ∃ as, ReadsAll h (es.map (·.key)) (dk.map (·.1)) as ∧ as = [] := by
  intro es kvs dk hp he
  rw [he]
  clear he
  induction hp with
  | nil => exact ⟨_, ReadsAll.nil, rfl⟩
  | @cons e kv es kvs hk hv hr ih =>
    obtain ⟨as, q, rfl⟩ := ih
    have hk' : keyIs kv.1 e.key = true := hk
    rcases keyIs_shape hk' with ⟨i, t, e1, e2⟩ | ⟨x, t, e1, e2⟩
    · refine ⟨[] ++ [], ReadsAll.cons (d := keyD kv.1) (v := e.key) (as := []) ?_ q, rfl⟩
      rw [e1, e2]; exact Reads.int i t
    · refine ⟨[] ++ [], ReadsAll.cons (d := keyD kv.1) (v := e.key) (as := []) ?_ q, rfl⟩
      rw [e1, e2]; exact Reads.str x t
theorem dakv_keys {b : Bool} {K : PySem.W.Frag} {H : Hp} : ∀ {kvs : List (Key × V)} {dk : List (PyData × PyData)}, DaKvF b K H kvs dk → dk.map (·.1) = kvs.map (fun p => keyD p.1)
  | _, _, .nil => rfl
  | _, _, .cons a r => by rw [List.map_cons, List.map_cons, dakv_keys r]
theorem dakv_vals {b : Bool} {K : PySem.W.Frag} {H : Hp} : ∀ {kvs : List (Key × V)} {dk : List (PyData × PyData)}, DaKvF b K H kvs dk → DaAllF b K H (kvs.map (·.2)) (dk.map (·.2))
  | _, _, .nil => .nil
  | _, _, .cons a r => .cons a (dakv_vals r)
theorem kv_keys : ∀ {kvs : List (Key × V)} {vs : List (Key × Value)}, KV kvs vs → kvs.map (fun p => keyD p.1) = vs.map (fun p => keyD p.1)
  | _, _, .nil => rfl
  | _, _, .cons a r => by rw [List.map_cons, List.map_cons, kv_keys r, a.1]
theorem kv_vals : ∀ {kvs : List (Key × V)} {vs : List (Key × Value)}, KV kvs vs → Vals (kvs.map (·.2)) (vs.map (·.2))
  | _, _, .nil => .nil
  | _, _, .cons a r => .cons a.2 (kv_vals r)
theorem pairs_vals {P : Program} {w : World} : ∀ {es : List DictEntry} {vs : List (Key × Value)}, Pairs (mixKind P w) es vs → es.map (·.val) = vs.map (·.2)
  | _, _, .nil => rfl
  | _, _, .cons _ hv r => by rw [List.map_cons, List.map_cons, hv, pairs_vals r]
section
variable {X : Cx} {pins : List (Addr × Obj)} {σ : L2.St} {H : Hp} {s : Shared}
mutual
theorem DaF.reads {b : Bool} (I : Inv X pins σ H s) : ∀ (d : PyData) (v : V) (u : Value), DaF b X.K H v d → RelV v u → ∃ as, Reads s.heap u d as ∧ (b = true → sysModules ∉ as)
  | .none, _, _, h, r => by
    cases h; cases r
    exact ⟨_, Reads.none, fun _ => by simp⟩
  | .bool b, _, _, h, r => by
    cases h; cases r
    exact ⟨_, Reads.bool b, fun _ => by simp⟩
  | .int i, _, _, h, r => by
    cases h
    obtain ⟨t, rfl⟩ := r
    exact ⟨_, Reads.int i t, fun _ => by simp⟩
  | .str x, _, _, h, r => by
    cases h
    obtain ⟨t, rfl⟩ := r
    exact ⟨_, Reads.str x t, fun _ => by simp⟩
  | .list ds, _, _, h, r => by
    cases h with
    | lst hq hne ha =>
      cases r
      obtain ⟨its, rv, ⟨o, n, ho, hc, _, hd⟩, _⟩ := I.list hq
      obtain ⟨as, hr, hn⟩ := DaF.readsAll I ds _ its ha rv
      refine ⟨_, Reads.list ho hc hd hr, ?_⟩
      intro hb hm
      rcases List.mem_cons.mp hm with e | hm
      · exact hne hb e.symm
      · exact hn hb hm
  | .tuple ds, _, _, h, r => by
    cases h with
    | tup hq ha =>
      cases r
      obtain ⟨its, rv, ⟨o, ho, hc, n, hd⟩, _⟩ := I.tuple hq
      obtain ⟨as, hr, hn⟩ := DaF.readsAll I ds _ its ha rv
      exact ⟨_, Reads.tuple ho hc hd hr, hn⟩
  | .dict dk, _, _, h, r => by
    cases h with
    | dic hq ha =>
      cases r
      obtain ⟨_, hsys, vs, kv, o, es, ep, ho, hx, hd, _, hp, _⟩ := hq.ok I.hok
      obtain ⟨as1, r1, e1⟩ := kv_reads (h := s.heap) (kvs := []) (dk := dk) hp ((dakv_keys ha).trans (kv_keys kv))
      obtain ⟨as2, r2, hn⟩ := DaF.readsKv I dk _ (vs.map (·.2)) ha (kv_vals kv)
      subst e1
      refine ⟨_, Reads.dict ho hx.1 hd r1 (by rw [pairs_vals hp]; exact r2), ?_⟩
      intro hb hm
      rcases List.mem_append.mp hm with hm | hm
      · rcases List.mem_cons.mp hm with e | hm
        · rw [← e] at hsys; simp at hsys
        · simp at hm
      · exact hn hb hm
theorem DaF.readsAll {b : Bool} (I : Inv X pins σ H s) : ∀ (ds : List PyData) (vs : List V) (us : List Value), DaAllF b X.K H vs ds → Vals vs us → ∃ as, ReadsAll s.heap us ds as ∧ (b = true → sysModules ∉ as)
  | [], _, _, h, r => by
    cases h; cases r
    exact ⟨_, ReadsAll.nil, fun _ => by simp⟩
  | d :: ds, _, _, h, r => by
    cases h with
    | cons h1 h2 =>
      cases r with
      | cons r1 r2 =>
        obtain ⟨as, q1, n1⟩ := DaF.reads I d _ _ h1 r1
        obtain ⟨bs, q2, n2⟩ := DaF.readsAll I ds _ _ h2 r2
        exact ⟨_, ReadsAll.cons q1 q2, fun hb hm => (List.mem_append.mp hm).elim (n1 hb) (n2 hb)⟩
theorem DaF.readsKv {b : Bool} (I : Inv X pins σ H s) : ∀ (dk : List (PyData × PyData)) (kvs : List (Key × V)) (us : List Value), DaKvF b X.K H kvs dk → Vals (kvs.map (·.2)) us → ∃ as, ReadsAll s.heap us (dk.map (·.2)) as ∧ (b = true → sysModules ∉ as)
  | [], _, _, h, r => by
    cases h; cases r
    exact ⟨_, ReadsAll.nil, fun _ => by simp⟩
  | (_, d) :: dk, _, _, h, r => by
    cases h with
    | cons h1 h2 =>
      cases r with
      | cons r1 r2 =>
        obtain ⟨as, q1, n1⟩ := DaF.reads I d _ _ h1 r1
        obtain ⟨bs, q2, n2⟩ := DaF.readsKv I dk _ _ h2 r2
        exact ⟨_, ReadsAll.cons q1 q2, fun hb hm => (List.mem_append.mp hm).elim (n1 hb) (n2 hb)⟩
end
/-- what may be shown -/
structure Shw (d : PyData) : Prop where
  sh : d.showable = true
  dp : d.depth ≤ 20
  sz : d.shown.length ≤ sizeLine
theorem call_reprD (hgd : X.A.guards = some []) (hu : X.A.units + 100 < cLine) : CallR X (.builtin "repr") (fun xs H Q => ∃ b v d, xs = [v] ∧ DaF b X.K H v d ∧ (b = true ∨ d.hasDict = false) ∧ Shw d ∧ Q (.str d.shown) H) := by
  intro pins s σ H xs us Q I r h
  obtain ⟨b, v, d, rfl, hd, hb, hw, q⟩ := h
  obtain ⟨u, rfl, rv⟩ := vals1 r
  cases hd with
  | non =>
    cases rv
    refine PySem.P.repr_of_none ⟨.str _, H, I.tok _, ⟨_, rfl⟩, ?_⟩
    simpa only [PyData.shown] using q
  | bl b =>
    cases rv
    refine PySem.P.repr_of_bool ⟨.str _, H, I.tok _, ⟨_, rfl⟩, ?_⟩
    simpa only [PyData.shown] using q
  | int i =>
    obtain ⟨t, rfl⟩ := rv
    refine PySem.P.repr_of_int (by have := hw.sh; simpa [PyData.showable] using this) ⟨.str _, H, I.tok _, ⟨_, rfl⟩, ?_⟩
    simpa only [PyData.shown] using q
  | str x =>
    obtain ⟨t, rfl⟩ := rv
    refine PySem.P.repr_of_str ⟨.str _, H, I.tok _, ⟨_, rfl⟩, ?_⟩ (by have := hw.sz; simpa only [PyData.shown] using this)
    simpa only [PyData.shown] using q
  | lst h1 h0 h2 =>
    obtain ⟨as, hR, hn⟩ := DaF.reads I _ _ _ (.lst h1 h0 h2) rv
    cases rv
    exact repr_of_reads' hR hw.sh (fun z => hn (hb.resolve_right (by rw [z]; exact Bool.noConfusion))) hgd (by have := hw.dp; omega) (fun _ _ e => e) (fun h' u tk k => ⟨.str _, H, I.kept k, ⟨_, rfl⟩, q⟩) hw.sz
  | tup h1 h2 =>
    obtain ⟨as, hR, hn⟩ := DaF.reads I _ _ _ (.tup h1 h2) rv
    cases rv
    exact repr_of_reads' hR hw.sh (fun z => hn (hb.resolve_right (by rw [z]; exact Bool.noConfusion))) hgd (by have := hw.dp; omega) (fun _ _ e => e) (fun h' u tk k => ⟨.str _, H, I.kept k, ⟨_, rfl⟩, q⟩) hw.sz
  | dic h1 h2 =>
    obtain ⟨as, hR, hn⟩ := DaF.reads I _ _ _ (.dic h1 h2) rv
    cases rv
    exact repr_of_reads' hR hw.sh (fun z => hn (hb.resolve_right (by rw [z]; exact Bool.noConfusion))) hgd (by have := hw.dp; omega) (fun _ _ e => e) (fun h' u tk k => ⟨.str _, H, I.kept k, ⟨_, rfl⟩, q⟩) hw.sz
end
abbrev Da := DaF false
abbrev DaAll := DaAllF false
abbrev DaKv := DaKvF false
abbrev DaS := DaF true
abbrev DaAllS := DaAllF true
theorem Da.lst {K : PySem.W.Frag} {H : Hp} {a : Addr} {xs : List V} {ds : List PyData} (h : SqL K H a xs) (k : DaAll K H xs ds) : Da K H (.ref a) (.list ds) := DaF.lst h Bool.noConfusion k
mutual
theorem DaF.da {b : Bool} {K : PySem.W.Frag} {H : Hp} : ∀ {v : V} {d : PyData}, DaF b K H v d → Da K H v d
  | _, _, .non => DaF.non
  | _, _, .bl c => DaF.bl c
  | _, _, .int i => DaF.int i
  | _, _, .str x => DaF.str x
  | _, _, .lst h _ a => DaF.lst h Bool.noConfusion (DaAllF.da a)
  | _, _, .tup h a => DaF.tup h (DaAllF.da a)
  | _, _, .dic h a => DaF.dic h (DaKvF.da a)
theorem DaAllF.da {b : Bool} {K : PySem.W.Frag} {H : Hp} : ∀ {vs : List V} {ds : List PyData}, DaAllF b K H vs ds → DaAll K H vs ds
  | _, _, .nil => DaAllF.nil
  | _, _, .cons a r => DaAllF.cons (DaF.da a) (DaAllF.da r)
theorem DaKvF.da {b : Bool} {K : PySem.W.Frag} {H : Hp} : ∀ {kvs : List (Key × V)} {ds : List (PyData × PyData)}, DaKvF b K H kvs ds → DaKv K H kvs ds
  | _, _, .nil => DaKvF.nil
  | _, _, .cons a r => DaKvF.cons (DaF.da a) (DaKvF.da r)
end
end KX

namespace KX
open PySem PySem.Spec PyProof.Rows L2
/-! ### the readings, by their heads: one row a reading, for a stepping that looks at the head alone -/
theorem Same.get {H H' : Hp} {a : Addr} {o : HO} (s : Same H H') (h : H a = some o) : H' a = some o := s _ _ h
/-- all but what stands at r is as it was -/
def Off (r : Addr) (H H' : Hp) : Prop := ∀ b o, b ≠ r → H b = some o → H' b = some o
theorem Off.get {r : Addr} {H H' : Hp} {a : Addr} {o : HO} (s : Off r H H') (n : a ≠ r) (h : H a = some o) : H' a = some o := s _ _ n h
theorem Off.refl (r : Addr) (H : Hp) : Off r H H := fun _ _ _ e => e
theorem Off.trans {r : Addr} {H H1 H2 : Hp} (a : Off r H H1) (b : Off r H1 H2) : Off r H H2 := fun c o n e => b c o n (a c o n e)
theorem Off.of_same {r : Addr} {H H' : Hp} (a : Same H H') : Off r H H' := fun c o _ e => a c o e
theorem off_upd {r : Addr} {H : Hp} {o : HO} : Off r H (L2.upd H r o) := fun c u n e => by
  rw [upd_ne n]; exact e
theorem same_new {H : Hp} {p : Addr} {o : HO} (h : H p = none) : Same H (L2.upd H p o) := fun b x e => by
  rw [upd_ne (ne_of_none e h)]; exact e
/-- what is written at an address that was free leaves all as it was -/
theorem Off.new {p : Addr} {H H1 H2 : Hp} (n : H p = none) (a : Same H H1) (b : Off p H1 H2) : Same H H2 := fun c o e => b c o (ne_of_none e n) (a c o e)
theorem Off.thenS {r : Addr} {H H1 H2 : Hp} (b : Same H1 H2) (a : Off r H H1) : Off r H H2 := a.trans (.of_same b)
theorem Off.thenO {r : Addr} {H H1 H2 : Hp} (b : Off r H1 H2) (a : Off r H H1) : Off r H H2 := a.trans b
theorem Off.thenF {r p : Addr} {H H0 H1 H2 : Hp} (b : Off p H1 H2) (n : H0 p = none) (a0 : Off r H H0) (a : Off r H H1) : Off r H H2 := fun c o hc e => b c o (ne_of_none (a0 c o hc e) n) (a c o hc e)
theorem Same.thenS {H H1 H2 : Hp} (b : Same H1 H2) (a : Same H H1) : Same H H2 := a.trans b
theorem Same.thenF {p : Addr} {H H0 H1 H2 : Hp} (b : Off p H1 H2) (n : H0 p = none) (a0 : Same H H0) (a : Same H H1) : Same H H2 := fun c o e => b c o (ne_of_none (a0 c o e) n) (a c o e)
theorem ne_some {H : Hp} {a b : Addr} {o : HO} (h' : H b = none) (h : H a = some o) : a ≠ b := ne_of_none h h'
/-- a new object: what follows, in the rules' form and over a heap that is told by what it holds -/
def NewR (H : Hp) (o : HO) (Q : VK) : Prop := ∀ p, H p = none → Q (.ref p) (upd H p o)
def New (H : Hp) (o : HO) (Q : VK) : Prop := ∀ p H', H p = none → Same H H' → H' p = some o → Q (.ref p) H'
theorem i_new {H : Hp} {o : HO} {Q : VK} (q : ∀ p H', H p = none → Same H H' → H' p = some o → Q (.ref p) H') : NewR H o Q := fun p hp => q p _ hp (same_new hp) upd_same
def PutR (H : Hp) (p : Addr) (o : HO) (R : Hp → Prop) : Prop := R (upd H p o)
theorem i_put {H : Hp} {p : Addr} {o : HO} {R : Hp → Prop} (q : ∀ H', Off p H H' → H' p = some o → R H') : PutR H p o R := q _ off_upd upd_same
def DispR (trs : List (TE × TE)) (σ : L2.St) (H : Hp) (Q : VK) : Prop := ∀ p, H p = none → tPairs trs σ (upd H p (.dK [])) fun ps H2 => H2 p = some (.dK []) ∧ ∃ kvs : List (Key × V), ps = kvs.map (fun kv => (kV kv.1, kv.2)) ∧ kvs.length ≤ 15 ∧ PutR H2 p (.dK (mergeK [] kvs)) (Q (.ref p))
theorem i_dispR {trs : List (TE × TE)} {σ : L2.St} {H : Hp} {Q : VK} (q : ∀ p H1, H p = none → Same H H1 → H1 p = some (.dK []) → tPairs trs σ H1 fun ps H2 => H2 p = some (.dK []) ∧ ∃ kvs : List (Key × V), ps = kvs.map (fun kv => (kV kv.1, kv.2)) ∧ kvs.length ≤ 15 ∧ PutR H2 p (.dK (mergeK [] kvs)) (Q (.ref p))) : DispR trs σ H Q := fun p hp => q p _ hp (same_new hp) upd_same
/-- loops and comprehensions over an iterator J -/
def ForR (J : It) (g : TG) (tb : TS) (D : Ends) (σ : L2.St) (H : Hp) : Prop := ∃ W : Nat → Nat → L2.St → Hp → Prop, (∃ m, W 0 m σ H) ∧ ∀ i m σ H, W i m σ H →
  (J.stop i H ∧ D.nx σ H) ∨ (J.go i H ∧ ∃ N : L2.St → Hp → Prop, (∀ σ' H', N σ' H' → ∃ m', m' < m ∧ W (i + 1) m' σ' H') ∧ ∀ x H', J.yld i H x H' → g x σ H' fun σ2 H2 => tb { D with nx := N, ct := N, bk := D.nx } σ2 H2)
def LcR (J : It) (g : TG) (tt : TT) (te : TE) (vs : List Nat) (σ : L2.St) (H1 : Hp) (Q : VK) : Prop := ∀ D, H1 D = none → ∃ W : Nat → Nat → Hp → Prop, (∃ m, W 0 m (upd H1 D (.lst []))) ∧ ∀ i m H, W i m H →
  (J.stop i H ∧ Q (.ref D) H) ∨ (J.go i H ∧ ∃ Nx : Hp → Prop, (∀ H', Nx H' → ∃ m', m' < m ∧ W (i + 1) m' H') ∧ ∀ x H', J.yld i H x H' → g x (wipe σ vs) H' fun σ2 H2 => wipe σ2 vs = wipe σ vs ∧ tt σ2 H2 fun b H3 =>
    if b = true then te σ2 H3 fun y H4 => ∃ acc, H4 D = some (.lst acc) ∧ acc.length < sizeLine ∧ Nx (upd H4 D (.lst (acc ++ [y]))) else Nx H3)
/-- J walks the items xs while G stands -/
structure Wk (J : It) (xs : List V) (G : Hp → Prop) : Prop where
  go : ∀ i H, G H → i < xs.length → J.go i H
  yl : ∀ i H x H', G H → J.yld i H x H' → i < xs.length → H' = H ∧ xs[i]? = some x
  st : ∀ i H, G H → xs.length ≤ i → J.stop i H
theorem wk_list {K : PySem.W.Frag} {a : Addr} {xs : List V} : Wk (Itl K a) xs fun H => SqL K H a xs where
  go := fun i H g h => ⟨xs, xs[i], g, by simp [h]⟩
  yl := fun i H x H' g y _ => ⟨y.1, y.2 xs g⟩
  st := fun i H g h => ⟨xs, g, h⟩
theorem wk_tup {K : PySem.W.Frag} {a : Addr} {xs : List V} : Wk (Itt K a) xs fun H => SqT K H a xs where
  go := fun i H g h => ⟨xs, xs[i], g, by simp [h]⟩
  yl := fun i H x H' g y _ => ⟨y.1, y.2 xs g⟩
  st := fun i H g h => ⟨xs, g, h⟩
def rangeV (lo : Int) (n : Nat) : List V := (List.range n).map fun i : Nat => V.int (lo + i)
theorem rangeV_len (lo : Int) (n : Nat) : (rangeV lo n).length = n := by simp [rangeV]
theorem rangeV_get {lo : Int} {n i : Nat} (h : i < n) : (rangeV lo n)[i]? = some (V.int (lo + i)) := by simp [rangeV, h]
theorem wk_range {lo : Int} {n : Nat} : Wk (Itr lo n) (rangeV lo n) fun _ => True where
  go := fun i H _ h => by rw [rangeV_len] at h; exact h
  yl := fun i H x H' _ y h => ⟨y.1, by rw [rangeV_len] at h; rw [rangeV_get h, y.2]⟩
  st := fun i H _ h => by rw [rangeV_len] at h; exact h
def signsV (x : Str) : List V := x.cps.toList.map fun c => V.str ⟨#[c]⟩
theorem signsV_len (x : Str) : (signsV x).length = x.cps.size := by simp [signsV]
theorem wk_str {x : Str} : Wk (Its x) (signsV x) fun _ => True where
  go := fun i H _ h => by rw [signsV_len] at h; exact h
  yl := fun i H v H' _ y h => by
    obtain ⟨e, c, hc, hv⟩ := y
    refine ⟨e, ?_⟩
    rw [hv]
    simp [signsV, hc]
  st := fun i H _ h => by rw [signsV_len] at h; exact h
theorem f_wk {J : It} {xs : List V} {G : Hp → Prop} (W : Wk J xs G) {g : TG} {tb : TS} {f b k : L2.St → Hp → Prop} {Q : VK} {σ : L2.St} {H : Hp} (Pv : Nat → L2.St → Hp → Prop) (h0 : Pv 0 σ H) (hG : ∀ i σ H, Pv i σ H → G H)
    (hs : ∀ i x σ H, xs[i]? = some x → Pv i σ H → g x σ H fun σ2 H2 => tb ⟨Pv (i + 1), Q, f, Pv (i + 1)⟩ σ2 H2) (hd : ∀ σ H, Pv xs.length σ H → f σ H) : ForR J g tb ⟨f, Q, b, k⟩ σ H := by
  refine ⟨fun i m σ H => m = xs.length - i ∧ i ≤ xs.length ∧ Pv i σ H, ⟨xs.length, by simp, Nat.zero_le _, h0⟩, ?_⟩
  rintro i m σ H ⟨rfl, hi, p⟩
  by_cases hlt : i < xs.length
  · refine .inr ⟨W.go i H (hG _ _ _ p) hlt, Pv (i + 1), fun σ' H' p' => ⟨xs.length - (i + 1), by omega, rfl, hlt, p'⟩, fun x H' y => ?_⟩
    obtain ⟨e, y2⟩ := W.yl i H x H' (hG _ _ _ p) y hlt
    subst e
    exact hs i x σ _ y2 p
  · have e : i = xs.length := by omega
    subst e
    exact .inl ⟨W.st _ H (hG _ _ _ p) (Nat.le_refl _), hd σ H p⟩
/-- the comprehension's list gets its next item -/
def LcEl (D : Addr) (P1 : List V → Hp → Prop) (y : V) (H4 : Hp) : Prop := ∃ acc, H4 D = some (.lst acc) ∧ acc.length < sizeLine ∧ PutR H4 D (.lst (acc ++ [y])) fun H => ∃ ys, P1 ys H
theorem i_lcEl {D : Addr} {P1 : List V → Hp → Prop} {y : V} {H : Hp} {acc : List V} (h : H D = some (.lst acc)) (z : acc.length < sizeLine) (q : ∀ H', Off D H H' → H' D = some (.lst (acc ++ [y])) → P1 (acc ++ [y]) H') : LcEl D P1 y H :=
  ⟨acc, h, z, _, q _ off_upd upd_same⟩
theorem l_wk {J : It} {xs : List V} {G : Hp → Prop} (W : Wk J xs G) {g : TG} {tt : TT} {te : TE} {vs : List Nat} {Q : VK} {σ : L2.St} {H1 : Hp}
    (q : ∀ D H0, H1 D = none → Same H1 H0 → H0 D = some (.lst []) → ∃ Pv : Nat → List V → Hp → Prop, Pv 0 [] H0 ∧ (∀ i ys H, Pv i ys H → G H) ∧
      (∀ i ys x H, xs[i]? = some x → Pv i ys H → g x (wipe σ vs) H fun σ2 H2 => wipe σ2 vs = wipe σ vs ∧ tt σ2 H2 fun b H3 =>
        if b = true then te σ2 H3 fun y H4 => LcEl D (Pv (i + 1)) y H4 else ∃ ys, Pv (i + 1) ys H3) ∧
      (∀ ys H, Pv xs.length ys H → Q (.ref D) H)) : LcR J g tt te vs σ H1 Q := by
  intro D hD
  obtain ⟨Pv, h0, hG, hs, hd⟩ := q D _ hD (same_new hD) upd_same
  refine ⟨fun i m H => m = xs.length - i ∧ i ≤ xs.length ∧ ∃ ys, Pv i ys H, ⟨xs.length, by simp, Nat.zero_le _, _, h0⟩, ?_⟩
  rintro i m H ⟨rfl, hi, ys, p⟩
  by_cases hlt : i < xs.length
  · refine .inr ⟨W.go i H (hG _ _ _ p) hlt, fun H => ∃ ys, Pv (i + 1) ys H, fun H' p' => ⟨xs.length - (i + 1), by omega, rfl, hlt, p'⟩, fun x H' y => ?_⟩
    obtain ⟨e, y2⟩ := W.yl i H x H' (hG _ _ _ p) y hlt
    subst e
    exact hs i ys x _ y2 p
  · have e : i = xs.length := by omega
    subst e
    exact .inl ⟨W.st _ H (hG _ _ _ p) (Nat.le_refl _), hd ys H p⟩
/-- a comprehension whose test and element change nothing of what was tracked: what it lists -/
theorem l_filter {J : It} {xs : List V} {G : Hp → Prop} (W : Wk J xs G) {g : TG} {tt : TT} {te : TE} {vs : List Nat} {Q : VK} {σ : L2.St} {H1 : Hp} (p : V → Bool) (F : V → V) (hlen : xs.length < sizeLine) (hG : ∀ H', Same H1 H' → G H')
    (hs : ∀ (i : Nat) x H' (R : VK) (N : Hp → Prop), xs[i]? = some x → Same H1 H' → (p x = true → ∀ H'', Same H' H'' → R (F x) H'') → (p x = false → ∀ H'', Same H' H'' → N H'') →
      g x (wipe σ vs) H' fun σ2 H2 => wipe σ2 vs = wipe σ vs ∧ tt σ2 H2 fun b H3 => if b = true then te σ2 H3 R else N H3)
    (q : ∀ D H', H1 D = none → Same H1 H' → H' D = some (.lst ((xs.filter p).map F)) → Q (.ref D) H') : LcR J g tt te vs σ H1 Q := by
  refine l_wk W fun D H0 n0 s0 e0 => ⟨fun i ys H => Same H1 H ∧ H D = some (.lst ys) ∧ ys = ((xs.take i).filter p).map F ∧ ys.length ≤ i, ⟨s0, e0, rfl, Nat.le_refl _⟩, fun i ys H h => hG _ h.1, fun i ys x H hx h => ?_, fun ys H h => ?_⟩
  · obtain ⟨s1, e1, hy, hl⟩ := h
    have hi : i < xs.length := by
      have := List.getElem?_eq_some_iff.mp hx
      exact this.1
    have ht : xs.take (i + 1) = xs.take i ++ [x] := by rw [List.take_add_one, hx]; rfl
    refine hs i x H (fun y H4 => LcEl D (fun ys H => Same H1 H ∧ H D = some (.lst ys) ∧ ys = ((xs.take (i + 1)).filter p).map F ∧ ys.length ≤ i + 1) y H4) (fun H3 => ∃ ys, Same H1 H3 ∧ H3 D = some (.lst ys) ∧ ys = ((xs.take (i + 1)).filter p).map F ∧ ys.length ≤ i + 1) hx s1 (fun hp H'' s2 => ?_) fun hp H'' s2 => ?_
    · refine i_lcEl (s2 _ _ e1) (by omega) fun H5 o5 e5 => ⟨Off.new n0 (s1.trans s2) o5, e5, ?_, by simp; omega⟩
      rw [ht, List.filter_append, List.map_append, hy]
      simp [hp]
    · refine ⟨ys, s1.trans s2, s2 _ _ e1, ?_, by omega⟩
      rw [ht, List.filter_append, List.map_append, hy]
      simp [hp]
  · obtain ⟨s1, e1, hy, hl⟩ := h
    rw [List.take_length] at hy
    rw [hy] at e1
    exact q D H n0 s1 e1
theorem l_map {J : It} {xs : List V} {G : Hp → Prop} (W : Wk J xs G) {g : TG} {te : TE} {vs : List Nat} {Q : VK} {σ : L2.St} {H1 : Hp} (F : V → V) (hlen : xs.length < sizeLine) (hG : ∀ H', Same H1 H' → G H')
    (hs : ∀ (i : Nat) x H' (R : VK), xs[i]? = some x → Same H1 H' → (∀ H'', Same H' H'' → R (F x) H'') → g x (wipe σ vs) H' fun σ2 H2 => wipe σ2 vs = wipe σ vs ∧ te σ2 H2 R)
    (q : ∀ D H', H1 D = none → Same H1 H' → H' D = some (.lst (xs.map F)) → Q (.ref D) H') : LcR J g tYes te vs σ H1 Q := by
  refine l_filter W (fun _ => true) F hlen hG (fun i x H' R N hx s1 hR _ => ?_) (fun D H' n s e => q D H' n s (by rw [e, List.filter_eq_self.mpr (by simp)]))
  have e : (fun (σ2 : L2.St) H2 => wipe σ2 vs = wipe σ vs ∧ tYes σ2 H2 fun b H3 => if b = true then te σ2 H3 R else N H3) = fun σ2 H2 => wipe σ2 vs = wipe σ vs ∧ te σ2 H2 R := by
    funext σ2 H2
    show (_ ∧ if true = true then te σ2 H2 R else N H2) = _
    rw [if_pos rfl]
  rw [e]
  exact hs i x H' R hx s1 (hR rfl)
section
variable {K : PySem.W.Frag} {σ σ' : L2.St} {H : Hp} {Q : VK} {D : Ends} {a b c : TE}
theorem i_var {i : Nat} {v : V} (h : σ[i]? = some (some v)) (q : Q v H) : tVar i σ H Q := ⟨v, h, q⟩
theorem i_c {v : V} (q : Q v H) : tC v σ H Q := q
theorem i_op {r : R2} (q : a σ H fun x H1 => b σ H1 fun y H2 => r x y H2 Q) : tOp r a b σ H Q := q
theorem i_un {r : V → Hp → VK → Prop} (q : a σ H fun x H1 => r x H1 Q) : tUn r a σ H Q := q
theorem i_rI {C : Int → Int → Prop} {g : Int → Int → V} {i j : Int} (c : C i j) (q : Q (g i j) H) : rI C g (.int i) (.int j) H Q := ⟨i, j, rfl, rfl, c, q⟩
theorem i_rI0 {g : Int → Int → V} {i j : Int} (q : Q (g i j) H) : rI0 g (.int i) (.int j) H Q := ⟨i, j, rfl, rfl, q⟩
theorem i_rU {g : Int → V} {i : Int} (q : Q (g i) H) : rU g (.int i) H Q := ⟨i, rfl, q⟩
theorem i_rEq {x y : V} (h : scal x y = true) (q : Q (.bl (decide (x = y))) H) : rEq x y H Q := ⟨h, q⟩
theorem i_rNe {x y : V} (h : scal x y = true) (q : Q (.bl (!decide (x = y))) H) : rNe x y H Q := ⟨h, q⟩
theorem i_rIxL {p : Addr} {xs : List V} {i : Int} {v : V} (h : SqL K H p xs) (e : atI xs i = some v) (q : Q v H) : rIxL K (.ref p) (.int i) H Q := ⟨p, xs, i, v, rfl, rfl, h, e, q⟩
theorem i_rIxT {p : Addr} {xs : List V} {i : Int} {v : V} (h : SqT K H p xs) (e : atI xs i = some v) (q : Q v H) : rIxT K (.ref p) (.int i) H Q := ⟨p, xs, i, v, rfl, rfl, h, e, q⟩
theorem i_rIxS {z : Str} {i : Int} {c : Nat} (h : z.length ≤ sizeLine) (e : atI z.cps.toList i = some c) (q : Q (.str ⟨#[c]⟩) H) : rIxS (.str z) (.int i) H Q := ⟨z, i, c, rfl, rfl, h, e, q⟩
theorem i_rSlS {z : Str} {lo hi : Option Int} (h : z.length ≤ sizeLine) (q : Q (.str (cutS z lo hi)) H) : rSlS (.str z) lo hi H Q := ⟨z, rfl, h, q⟩
theorem i_rSlL {p : Addr} {xs : List V} {lo hi : Option Int} (h : SqL K H p xs) (q : NewR H (.lst (cutV xs lo hi)) Q) : rSlL K (.ref p) lo hi H Q := ⟨p, xs, rfl, h, q⟩
theorem i_noPart {R : Option Int → Hp → Prop} (q : R none H) : tNoPart σ H R := q
theorem i_part {R : Option Int → Hp → Prop} (q : a σ H fun x H1 => ∃ i, x = .int i ∧ R (some i) H1) : tPart a σ H R := q
theorem i_sl {r : V → Option Int → Option Int → Hp → VK → Prop} {tl th : TO} (q : a σ H fun x H1 => tl σ H1 fun l H2 => th σ H2 fun u H3 => r x l u H3 Q) : tSl r a tl th σ H Q := q
theorem i_test {R : Bool → Hp → Prop} (q : a σ H fun x H1 => ∃ k, x = .bl k ∧ R k H1) : tTest a σ H R := q
theorem i_tB {R : Bool → Hp → Prop} (q : a σ H fun x H1 => ∃ k, x = .bl k ∧ R k H1) : tB a σ H R := q
theorem i_exbl {R : Bool → Hp → Prop} {k : Bool} (q : R k H) : ∃ k', V.bl k = .bl k' ∧ R k' H := ⟨k, rfl, q⟩
theorem i_exint {R : Int → Prop} {k : Int} (q : R k) : ∃ k', V.int k = .int k' ∧ R k' := ⟨k, rfl, q⟩
theorem i_and {t u : TT} {R : Bool → Hp → Prop} (q : t σ H fun c H1 => if c = true then u σ H1 R else R false H1) : tAnd t u σ H R := q
theorem i_or {t u : TT} {R : Bool → Hp → Prop} (q : t σ H fun c H1 => if c = true then R true H1 else u σ H1 R) : tOr t u σ H R := q
theorem i_not {t : TT} {R : Bool → Hp → Prop} (q : t σ H fun c H1 => R (!c) H1) : tNot t σ H R := q
theorem i_andV (q : a σ H fun x H1 => ∃ c, x = .bl c ∧ if c = true then b σ H1 Q else Q (.bl false) H1) : tAndV a b σ H Q := q
theorem i_orV (q : a σ H fun x H1 => ∃ c, x = .bl c ∧ if c = true then Q (.bl true) H1 else b σ H1 Q) : tOrV a b σ H Q := q
theorem i_notV (q : a σ H fun x H1 => ∃ c, x = .bl c ∧ Q (.bl (!c)) H1) : tNotV a σ H Q := q
theorem i_if {t : TT} (q : t σ H fun c H1 => if c = true then a σ H1 Q else b σ H1 Q) : tIf t a b σ H Q := q
theorem i_isN {x : V} (q : Q (.bl (decide (x = .non))) H) : (V.non = V.non ∧ Q (.bl (decide (x = .non))) H) := ⟨rfl, q⟩
theorem i_chain {r r' : R2} (q : a σ H fun x H1 => b σ H1 fun y H2 => r x y H2 fun z H3 => ∃ k, z = .bl k ∧ (if k = true then c σ H3 fun w' H4 => r' y w' H4 Q else Q (.bl false) H3)) : tChain r r' a b c σ H Q := q
theorem i_next {f g k : L2.St → Hp → Prop} (q : f σ H) : tNext ⟨f, Q, g, k⟩ σ H := q
theorem i_seq {t u : TS} {f g k : L2.St → Hp → Prop} (q : t ⟨u ⟨f, Q, g, k⟩, Q, g, k⟩ σ H) : tSeq t u ⟨f, Q, g, k⟩ σ H := q
theorem i_drop {f g k : L2.St → Hp → Prop} (q : a σ H fun _ H1 => f σ H1) : tDrop a ⟨f, Q, g, k⟩ σ H := q
theorem i_ret {f g k : L2.St → Hp → Prop} (q : a σ H Q) : tRet a ⟨f, Q, g, k⟩ σ H := q
theorem i_retN {f g k : L2.St → Hp → Prop} (q : Q .non H) : tRetN ⟨f, Q, g, k⟩ σ H := q
theorem i_ifS {c : TT} {t u : TS} (q : c σ H fun b H1 => if b = true then t D σ H1 else u D σ H1) : tIfS c t u D σ H := q
theorem i_asg {g : TG} {f g1 k : L2.St → Hp → Prop} (q : a σ H fun x H1 => g x σ H1 f) : tAsg a g ⟨f, Q, g1, k⟩ σ H := q
theorem i_par {i j : Nat} {t : TA} {f g1 k : L2.St → Hp → Prop} (q : t σ H fun vs H1 => ∃ v w, vs = [v, w] ∧ f ((σ.set i (some v)).set j (some w)) H1) : tPar i j t ⟨f, Q, g1, k⟩ σ H := q
theorem i_ex2 {R : V → V → Prop} {v w : V} (q : R v w) : ∃ v' w', [v, w] = [v', w'] ∧ R v' w' := ⟨v, w, rfl, q⟩
theorem i_aug {i : Nat} {x : V} {ti : TIp} {f g1 k : L2.St → Hp → Prop} (h : σ[i]? = some (some x)) (q : a σ H fun y H1 => ti x y H1 fun z H2 => f (σ.set i (some z)) H2) : tAug i a ti ⟨f, Q, g1, k⟩ σ H := ⟨x, h, q⟩
theorem i_gName {i : Nat} {v : V} {R : L2.St → Hp → Prop} (h : σ.set i (some v) = σ') (q : R σ' H) : gName i v σ H R := by
  subst h; exact q
theorem i_gNil {R : L2.St → Hp → Prop} (q : R σ H) : gNil [] σ H R := ⟨rfl, q⟩
theorem i_gCons {v : V} {r : List V} {g : TG} {u : TGs} {R : L2.St → Hp → Prop} (q : g v σ H fun s h => u r s h R) : gCons g u (v :: r) σ H R := ⟨v, r, rfl, q⟩
theorem i_gTup {p : Addr} {xs : List V} {n : Nat} {t : TGs} {R : L2.St → Hp → Prop} (h : SqT K H p xs) (e : xs.length = n) (q : t xs σ H R) : gTup K n t (.ref p) σ H R := ⟨p, xs, rfl, h, e, q⟩
theorem i_gSub {v : V} {t : TSet} {R : L2.St → Hp → Prop} (q : a σ H fun o H1 => b σ H1 fun i H2 => t o i v H2 fun H3 => R σ H3) : gSub a b t v σ H R := q
theorem i_rSetL {p : Addr} {xs : List V} {k : Int} {j : Nat} {v : V} {R : Hp → Prop} (h : H p = some (.lst xs)) (e : ixN xs.length k = some j) (q : PutR H p (.lst (xs.set j v)) R) : rSetL (.ref p) (.int k) v H R := ⟨p, xs, k, j, rfl, rfl, h, e, q⟩
theorem i_nil {R : List V → Hp → Prop} (q : R [] H) : tNil σ H R := q
theorem i_cons {t : TA} {R : List V → Hp → Prop} (q : a σ H fun x H1 => t σ H1 fun xs H2 => R (x :: xs) H2) : tCons a t σ H R := q
theorem i_tup {t : TA} (q : t σ H fun xs H1 => xs.length ≤ sizeLine ∧ NewR H1 (.tup xs) Q) : tTup t σ H Q := q
theorem i_lst {t : TA} (q : t σ H fun xs H1 => xs.length ≤ sizeLine ∧ NewR H1 (.lst xs) Q) : tLst t σ H Q := q
theorem i_newDK (q : NewR H (.dK []) Q) : tDNewK σ H Q := q
theorem i_disp {trs : List (TE × TE)} (q : DispR trs σ H Q) : tDisp trs σ H Q := q
theorem i_pairs0 {R : List (V × V) → Hp → Prop} (q : R [] H) : tPairs [] σ H R := q
theorem i_pairs1 {r : List (TE × TE)} {R : List (V × V) → Hp → Prop} (q : a σ H fun x H1 => b σ H1 fun y H2 => tPairs r σ H2 fun ps H3 => R ((x, y) :: ps) H3) : tPairs ((a, b) :: r) σ H R := q
theorem i_call {sp : Sp} {dvs : List V} {E : XK} {t : TA} (q : t σ H fun vs H1 => sp (vs ++ dvs) H1 Q E) : tCall sp dvs E t σ H Q := q
theorem i_cb {r : List V → Hp → VK → Prop} {t : TA} (q : t σ H fun vs H1 => r vs H1 Q) : tCB r t σ H Q := q
theorem i_bm {T : String} {r : V → List V → Hp → VK → Prop} {t : TA} (q : a σ H fun x H1 => tyV K T x H1 ∧ t σ H1 fun xs H2 => r x xs H2 Q) : tBM K T r a t σ H Q := q
theorem i_m1 {r : V → List V → Hp → VK → Prop} (q : a σ H fun x H1 => (∃ a, x = .str a) ∧ b σ H1 fun y H2 => r x [y] H2 Q) : tM1 r a b σ H Q := q
theorem i_m0 {r : V → List V → Hp → VK → Prop} (q : a σ H fun x H1 => (∃ a, x = .str a) ∧ r x [] H1 Q) : tM0 r a σ H Q := q
theorem i_rAppend {l : Addr} {xs : List V} {y : V} (h : H l = some (.lst xs)) (z : xs.length < sizeLine) (q : PutR H l (.lst (xs ++ [y])) (Q .non)) : rAppend (.ref l) [y] H Q := ⟨l, xs, y, rfl, rfl, h, z, q⟩
theorem i_rAll {p : Addr} {bs : List Bool} (h : SqL K H p (bs.map V.bl)) (q : Q (.bl (bs.all id)) H) : rAll K [.ref p] H Q := ⟨p, bs, rfl, h, q⟩
theorem i_rAny {p : Addr} {bs : List Bool} (h : SqL K H p (bs.map V.bl)) (q : Q (.bl (bs.any id)) H) : rAny K [.ref p] H Q := ⟨p, bs, rfl, h, q⟩
theorem i_rng1 {t : TA} {R : It → Hp → Prop} (q : t σ H fun vs H1 => ∃ j : Int, vs = [.int j] ∧ -(2 ^ 62) ≤ j ∧ j < 2 ^ 62 ∧ R (Itr 0 j.toNat) H1) : iRng1 t σ H R := q
theorem i_exrng {R : It → Hp → Prop} {j : Int} (h1 : -(2 ^ 62) ≤ j) (h2 : j < 2 ^ 62) (q : R (Itr 0 j.toNat) H) : ∃ j' : Int, [V.int j] = [.int j'] ∧ -(2 ^ 62) ≤ j' ∧ j' < 2 ^ 62 ∧ R (Itr 0 j'.toNat) H := ⟨j, rfl, h1, h2, q⟩
theorem i_iList {R : It → Hp → Prop} (q : a σ H fun x H1 => ∃ p, x = .ref p ∧ (∃ xs, SqL K H1 p xs) ∧ R (Itl K p) H1) : iList K a σ H R := q
theorem i_exl {R : It → Hp → Prop} {p : Addr} {xs : List V} (h : SqL K H p xs) (q : R (Itl K p) H) : ∃ p', V.ref p = .ref p' ∧ (∃ xs, SqL K H p' xs) ∧ R (Itl K p') H := ⟨p, rfl, ⟨xs, h⟩, q⟩
theorem i_iStr {R : It → Hp → Prop} (q : a σ H fun v H1 => ∃ x, v = .str x ∧ R (Its x) H1) : iStr a σ H R := q
theorem i_exs {R : Str → Prop} {x : Str} (q : R x) : ∃ x', V.str x = .str x' ∧ R x' := ⟨x, rfl, q⟩
theorem i_for {wi : TI} {g : TG} {tb : TS} (q : wi σ H fun J H1 => ForR J g tb D σ H1) : tFor wi g tb D σ H := q
theorem i_lc {wi : TI} {g : TG} {tt : TT} {te : TE} {vs : List Nat} (q : wi σ H fun J H1 => LcR J g tt te vs σ H1 Q) : tLc wi g tt te vs σ H Q := q
theorem i_yes {R : Bool → Hp → Prop} (q : R true H) : tYes σ H R := q
theorem i_ite {c : Bool} {A B : Prop} (h1 : c = true → A) (h2 : c = false → B) : if c = true then A else B := by
  cases c with
  | true => rw [if_pos rfl]; exact h1 rfl
  | false => rw [if_neg Bool.false_ne_true]; exact h2 rfl
theorem i_iteT {A B : Prop} (h : A) : if true = true then A else B := by rw [if_pos rfl]; exact h
theorem i_iteF {A B : Prop} (h : B) : if false = true then A else B := by rw [if_neg Bool.false_ne_true]; exact h
/-- divmod, over a heap that is told by what it holds -/
def rDivmod : List V → Hp → VK → Prop := fun xs H Q => ∃ i j, xs = [.int i, .int j] ∧ CDivP i j ∧ NewR H (.tup [.int (i / j), .int (i % j)]) Q
theorem call_divmodN {X : Cx} : CallR X (.builtin "divmod") rDivmod := fun pins s σ H xs us Q I r ⟨i, j, e, c, q⟩ => call_divmodW pins s σ H xs us Q I r ⟨i, j, e, c, q⟩
theorem i_divmod {i j : Int} (c : CDivP i j) (q : NewR H (.tup [.int (i / j), .int (i % j)]) Q) : rDivmod [.int i, .int j] H Q := ⟨i, j, rfl, c, q⟩
theorem i_rCat {l b : Addr} {xs zs : List V} (h : H l = some (.lst xs)) (k : H b = some (.lst zs)) (z : xs.length + zs.length ≤ sizeLine) (q : NewR H (.lst (xs ++ zs)) Q) : rCat (.ref l) (.ref b) H Q := ⟨l, b, xs, zs, rfl, rfl, h, k, z, q⟩
def rCatS : R2 := fun x y H Q => ∃ i j, x = .str i ∧ y = .str j ∧ i.length + j.length ≤ sizeLine ∧ Q (.str (i ++ j)) H
theorem op_catS {X : Cx} : OpR X (binaryOp .Add) rCatS := op_add_str
theorem i_rCatS {i j : Str} (h : i.length + j.length ≤ sizeLine) (q : Q (.str (i ++ j)) H) : rCatS (.str i) (.str j) H Q := ⟨i, j, rfl, rfl, h, q⟩
def rJoin (K : PySem.W.Frag) : V → List V → Hp → VK → Prop := fun x xs H Q => ∃ a p, ∃ ys : List Str, x = .str a ∧ xs = [.ref p] ∧ (SqL K H p (ys.map V.str) ∨ SqT K H p (ys.map V.str)) ∧ (ys.map (·.length)).sum + ys.length * a.length ≤ 16777216 ∧ Q (.str (Txt.join a ys)) H
theorem pe_joinN {X : Cx} {o e : Expr} {to te : TE} {apos pos : Pos} (ho : PE X o to) (he : PE X e te) (hs : starEach [e] X.env = [(false, eval e X.env)] := by rfl) (hbase : attributeBase o "join" X.env (eval o X.env) = eval o X.env := by rfl) (hline : (apos.endLine == pos.line) = true := by rfl) :
    PE X (.Call (.Attribute o "join" apos) [e] [] pos) (tM1 (rJoin X.K) to te) := pe_join ho he hs hbase hline
theorem i_join {a : Str} {p : Addr} {ys : List Str} (h : SqL K H p (ys.map V.str)) (z : (ys.map (·.length)).sum + ys.length * a.length ≤ 16777216) (q : Q (.str (Txt.join a ys)) H) : rJoin K (.str a) [.ref p] H Q := ⟨a, p, ys, rfl, rfl, .inl h, z, q⟩
theorem i_exstr {x : Str} {R : Prop} (q : R) : (∃ a, V.str x = .str a) ∧ R := ⟨⟨x, rfl⟩, q⟩
end
end KX

namespace KX
open PySem PySem.Spec PyProof.Rows L2
/-! ### texts -/
def okS (x : Str) (n : Nat) : Prop := x.length ≤ n ∧ ∀ c ∈ x.cps.toList, c < 1114112
theorem okS.mono {x : Str} {n m : Nat} (h : okS x n) (k : n ≤ m) : okS x m := ⟨Nat.le_trans h.1 k, h.2⟩
theorem okS.app {x y : Str} {n m : Nat} (h : okS x n) (k : okS y m) : okS (x ++ y) (n + m) := by
  refine ⟨?_, fun c hc => ?_⟩
  · rw [Str.length_append]; have := h.1; have := k.1; omega
  · have e : (x ++ y).cps = x.cps ++ y.cps := rfl
    rw [e, Array.toList_append] at hc
    rcases List.mem_append.mp hc with hc | hc
    · exact h.2 c hc
    · exact k.2 c hc
theorem okS.cut {x : Str} {n : Nat} (h : okS x n) (lo hi : Option Int) : okS (cutS x lo hi) n := by
  refine ⟨?_, fun c hc => ?_⟩
  · have e : (cutS x lo hi).length = (cutS x lo hi).cps.toList.length := rfl
    have l : x.length = x.cps.toList.length := rfl
    rw [e]; unfold cutS
    show ((x.cps.toList.drop _).take _).length ≤ n
    rw [List.length_take, List.length_drop]
    have := h.1; omega
  · unfold cutS at hc
    exact h.2 c (List.mem_of_mem_drop (List.mem_of_mem_take hc))
theorem joinL_nil_len {b : Nat} : ∀ ps : List (List Nat), (∀ p ∈ ps, p.length ≤ b ∧ ∀ c ∈ p, c < 1114112) → (TL.joinL [] ps).length ≤ ps.length * b ∧ ∀ c ∈ TL.joinL [] ps, c < 1114112
  | [], _ => ⟨by simp [TL.joinL], by simp [TL.joinL]⟩
  | [p], h => by
    have := h p (by simp)
    simp only [TL.joinL, List.length_cons, List.length_nil]
    exact ⟨by omega, this.2⟩
  | p :: q :: r, h => by
    have h1 := h p (by simp)
    have ih := joinL_nil_len (q :: r) (fun x hx => h x (List.mem_cons_of_mem _ hx))
    simp only [TL.joinL, List.append_nil, List.nil_append, List.length_append, List.length_cons] at ih ⊢
    refine ⟨?_, fun c hc => ?_⟩
    · have e : (r.length + 1 + 1) * b = (r.length + 1) * b + b := by rw [Nat.add_mul (r.length + 1) 1 b, Nat.one_mul]
      omega
    · rcases List.mem_append.mp hc with hc | hc
      · exact h1.2 c hc
      · exact ih.2 c hc
theorem okS.joined {ys : List Str} {b : Nat} (h : ∀ y ∈ ys, okS y b) {s : Str} (hs : s.cps = #[]) : okS (Txt.join s ys) (ys.length * b) := by
  rw [TL.join_eq]
  have e := TL.tl_join s ys
  have e2 : TL.tl s = [] := by unfold TL.tl; rw [hs]
  rw [e2] at e
  have k := joinL_nil_len (b := b) (ys.map TL.tl) (fun p hp => by
    obtain ⟨y, hy, rfl⟩ := List.mem_map.mp hp
    exact ⟨(h y hy).1, (h y hy).2⟩)
  rw [← e, List.length_map] at k
  exact k
theorem okS.one {c : Nat} (h : c < 1114112) : okS ⟨#[c]⟩ 1 := ⟨Nat.le_refl _, fun d hd => by
  have : d = c := by simpa using hd
  rw [this]; exact h⟩
theorem okS.atI {x : Str} {n : Nat} (h : okS x n) {i : Int} {c : Nat} (e : atI x.cps.toList i = some c) : okS ⟨#[c]⟩ 1 := by
  unfold L2.atI at e
  cases q : ixN x.cps.toList.length i with
  | none => rw [q] at e; cases e
  | some j =>
    rw [q] at e
    exact okS.one (h.2 c (List.mem_of_getElem? e))
theorem okS.line {x : Str} {n : Nat} (h : okS x n) (k : n ≤ 16777216) : x.length ≤ sizeLine := by rw [sizeLine_eq]; exact Nat.le_trans h.1 k
/-! ### what is shown, bounded -/
theorem shown_str_le {x : Str} {n : Nat} (h : okS x n) : (PyData.str x).shown.length ≤ 10 * n + 2 := by
  simp only [PyData.shown]
  have := StrLaws.reprText_len x (fun c hc => Nat.lt_of_lt_of_le (h.2 c hc) (by decide))
  have := h.1; omega
theorem Shw.of_str {x : Str} {n : Nat} (h : okS x n) (k : n ≤ 100000) : Shw (.str x) := ⟨rfl, by simp [PyData.depth], by have := shown_str_le h; rw [sizeLine_eq]; omega⟩
theorem log2_lt_1920 {i : Int} {k : Nat} (h : i.natAbs < 2 ^ k) (hk : k ≤ 1920) (h0 : 0 < k) : i.natAbs.log2 < 1920 := by
  have := PySem.Flt.log2_lt_of h0 h
  omega
/-! ### kinds -/
def tyN : PyData → String
  | .none => "NoneType" | .bool _ => "bool" | .int _ => "int" | .str _ => "str" | .list _ => "list" | .tuple _ => "tuple" | .dict _ => "dict"
theorem DaF.ty {b : Bool} {K : PySem.W.Frag} {H : Hp} {v : V} {d : PyData} (h : DaF b K H v d) : TyX K H v (.type (tyN d)) := by
  cases h with
  | non => exact .base .non
  | bl b => exact .base (.bl b)
  | int i => exact .base (.int i)
  | str x => exact .base (.str x)
  | lst h _ _ =>
    rcases h with (h | ⟨o, h⟩) | ⟨o, its, n, h, hc, _⟩
    · exact .base (.lst h)
    · exact .base (.frz h)
    · exact .kList h hc
  | tup h _ =>
    rcases h with (h | ⟨o, h⟩) | ⟨o, its, n, h, hc, _⟩
    · exact .base (.tup h)
    · exact .fTuple h
    · exact .kTuple h hc
  | dic h _ =>
    rcases h with h | ⟨o, h⟩
    · exact .base (.dK h)
    · exact .fDict h
def isi (d : PyData) (T : String) : Bool := tyN d == T || (tyN d == "bool" && T == "int")
theorem kit_isi : ∀ (d : PyData) (T : String), T ∈ ["int", "bool", "str", "tuple", "list", "dict"] → kitB (tyN d) T = some (isi d T) := by
  intro d T h
  have all : ∀ a ∈ ["NoneType", "bool", "int", "str", "list", "tuple", "dict"], ∀ T ∈ ["int", "bool", "str", "tuple", "list", "dict"], kitB a T = some (a == T || (a == "bool" && T == "int")) := by decide +kernel
  exact all (tyN d) (by cases d <;> simp [tyN]) T h
def rIsiD (K : PySem.W.Frag) : List V → Hp → VK → Prop := fun xs H Q => ∃ b v d T, xs = [v, .ty T] ∧ DaF b K H v d ∧ T ∈ ["int", "bool", "str", "tuple", "list", "dict"] ∧ Q (.bl (isi d T)) H
theorem call_isiD {X : Cx} : CallR X (.builtin "isinstance") (rIsiD X.K) := by
  intro pins s σ H xs us Q I r h
  obtain ⟨_, v, d, T, rfl, hd, hT, q⟩ := h
  exact call_isi pins s σ H _ us Q I r ⟨v, .ty T, _, _, _, rfl, .ty T, hd.ty, kit_ty (kit_isi d T hT), q⟩
theorem i_isi {b : Bool} {K : PySem.W.Frag} {H : Hp} {Q : VK} {v : V} {d : PyData} {T : String} (h : DaF b K H v d) (hT : T ∈ ["int", "bool", "str", "tuple", "list", "dict"]) (q : Q (.bl (isi d T)) H) : rIsiD K [v, .ty T] H Q := ⟨b, v, d, T, rfl, h, hT, q⟩
/-! ### len -/
def rLen (K : PySem.W.Frag) : List V → Hp → VK → Prop := fun xs H Q => ∃ x n, xs = [x] ∧ LenV K x H n ∧ Q (.int n) H
theorem call_lenN {X : Cx} : CallR X (.builtin "len") (rLen X.K) := call_len
theorem i_lenS {K : PySem.W.Frag} {H : Hp} {Q : VK} {x : Str} (h : x.length ≤ sizeLine) (q : Q (.int x.length) H) : rLen K [.str x] H Q := ⟨_, _, rfl, ⟨h, rfl⟩, q⟩
theorem i_lenL {K : PySem.W.Frag} {H : Hp} {Q : VK} {p : Addr} {xs : List V} (h : SqL K H p xs) (q : Q (.int xs.length) H) : rLen K [.ref p] H Q := ⟨_, _, rfl, .inl ⟨_, h, rfl⟩, q⟩
theorem i_lenT {K : PySem.W.Frag} {H : Hp} {Q : VK} {p : Addr} {xs : List V} (h : SqT K H p xs) (q : Q (.int xs.length) H) : rLen K [.ref p] H Q := ⟨_, _, rfl, .inr ⟨_, h, rfl⟩, q⟩
/-! ### repr -/
def rRepr (K : PySem.W.Frag) : List V → Hp → VK → Prop := fun xs H Q => ∃ b v d, xs = [v] ∧ DaF b K H v d ∧ (b = true ∨ d.hasDict = false) ∧ Shw d ∧ Q (.str d.shown) H
theorem call_reprN {X : Cx} (hr : Rg 1 X.A) : CallR X (.builtin "repr") (rRepr X.K) := call_reprD hr.gd (by have := hr.room.un; omega)
theorem i_repr {b : Bool} {K : PySem.W.Frag} {H : Hp} {Q : VK} {v : V} {d : PyData} (h : DaF b K H v d) (n : b = true ∨ d.hasDict = false) (w : Shw d) (q : Q (.str d.shown) H) : rRepr K [v] H Q := ⟨b, v, d, rfl, h, n, w, q⟩
/-! ### min, max, abs -/
theorem i_abs {H : Hp} {Q : VK} {i : Int} (q : Q (.int (if i < 0 then -i else i)) H) : ∃ j, [V.int i] = [.int j] ∧ Q (.int (if j < 0 then -j else j)) H := ⟨i, rfl, q⟩
theorem i_max {H : Hp} {Q : VK} {i j : Int} (q : Q (.int (if j > i then j else i)) H) : ∃ a b, [V.int i, V.int j] = [.int a, .int b] ∧ Q (.int (if b > a then b else a)) H := ⟨i, j, rfl, q⟩
theorem i_min {H : Hp} {Q : VK} {i j : Int} (q : Q (.int (if j < i then j else i)) H) : ∃ a b, [V.int i, V.int j] = [.int a, .int b] ∧ Q (.int (if b < a then b else a)) H := ⟨i, j, rfl, q⟩
/-! ### deep == -/
mutual
theorem DaF.dp {b : Bool} {K : PySem.W.Frag} {H : Hp} : ∀ {v : V} {d : PyData}, DaF b K H v d → d.hasDict = false → Dp K H v d
  | _, _, .non, _ => .non
  | _, _, .bl b, _ => .bl b
  | _, _, .int i, _ => .int i
  | _, _, .str x, _ => .str x
  | _, _, .lst h _ a, k => .lst h (DaAllF.dp a (by simpa [PyData.hasDict] using k))
  | _, _, .tup h a, k => .tup h (DaAllF.dp a (by simpa [PyData.hasDict] using k))
  | _, _, .dic h a, k => by simp [PyData.hasDict] at k
theorem DaAllF.dp {b : Bool} {K : PySem.W.Frag} {H : Hp} : ∀ {vs : List V} {ds : List PyData}, DaAllF b K H vs ds → PyData.hasDictAll ds = false → DpAll K H vs ds
  | _, _, .nil, _ => .nil
  | _, _, .cons a r, k => by
    simp only [PyData.hasDictAll, Bool.or_eq_false_iff] at k
    exact .cons (DaF.dp a k.1) (DaAllF.dp r k.2)
end
theorem strOk_of {x : Str} {n : Nat} (h : okS x n) : PyData.strOk x = true := by
  unfold PyData.strOk
  rw [Array.all_eq_true]
  intro i hi
  exact decide_eq_true (h.2 _ (by simp))
theorem i_eqD {b c : Bool} {K : PySem.W.Frag} {H : Hp} {Q : VK} {x y : V} {d e : PyData} (h : DaF b K H x d) (k : DaF c K H y e) (hd : d.hasDict = false) (he : e.hasDict = false) (sd : SeqAt.shaped d = true) (se : SeqAt.shaped e = true) (q : Q (.bl (PyData.eqv d e)) H) : rEqD K x y H Q :=
  ⟨d, e, h.dp hd, k.dp he, sd, se, q⟩
/-- a list of texts of one sign -/
def signsD (l : List Nat) : List PyData := l.map fun c => .str ⟨#[c]⟩
theorem da_signs {K : PySem.W.Frag} {H : Hp} : ∀ l : List Nat, DaAll K H (l.map fun c => V.str ⟨#[c]⟩) (signsD l)
  | [] => .nil
  | c :: l => .cons (.str _) (da_signs l)
theorem signs_hasDict : ∀ l : List Nat, PyData.hasDictAll (signsD l) = false
  | [] => rfl
  | c :: l => by show (PyData.hasDict (.str ⟨#[c]⟩) || PyData.hasDictAll (signsD l)) = false; rw [signs_hasDict l]; rfl
theorem signs_lay : ∀ l : List Nat, (∀ c ∈ l, c < 1114112) → PyData.canLayAll0 (signsD l) = true
  | [], _ => rfl
  | c :: l, h => by
    show (PyData.canLay0 (.str ⟨#[c]⟩) && PyData.canLayAll0 (signsD l)) = true
    rw [signs_lay l fun d hd => h d (List.mem_cons_of_mem _ hd)]
    have := h c List.mem_cons_self
    simp [PyData.canLay0, PyData.strOk, this]
theorem signs_depth : ∀ l : List Nat, PyData.depthAll (signsD l) ≤ 1
  | [] => by simp [signsD, PyData.depthAll]
  | c :: l => by
    have := signs_depth l
    simp only [signsD, List.map_cons, PyData.depthAll, PyData.depth] at this ⊢
    omega
theorem i_eqSigns {K : PySem.W.Frag} {H : Hp} {Q : VK} {a b : Addr} {l : List Nat} (h : H a = some (.lst (l.map fun c => V.str ⟨#[c]⟩))) (k : H b = some (.lst [])) (hl : ∀ c ∈ l, c < 1114112) (q : Q (.bl l.isEmpty) H) : rEqD K (.ref a) (.ref b) H Q := by
  refine i_eqD (b := false) (c := false) (Da.lst (.inl (.inl h)) (da_signs l)) (Da.lst (.inl (.inl k)) DaAllF.nil) (signs_hasDict l) rfl ?_ rfl ?_
  · unfold SeqAt.shaped
    have h1 : PyData.canLay0 (.list (signsD l)) = true := signs_lay l hl
    have h2 : PyData.depth (.list (signsD l)) ≤ 64 := by
      have := signs_depth l
      simp only [PyData.depth]
      omega
    rw [h1]
    simpa using h2
  · have e : PyData.eqv (.list (signsD l)) (.list []) = l.isEmpty := by
      cases l with
      | nil => rfl
      | cons c l => rfl
    rw [e]; exact q
/-! ### the law's numbers: a list of two ints that each draw turns -/
def Rok (H : Hp) (r : Addr) : Prop := ∃ a b : Int, H r = some (.lst [.int a, .int b]) ∧ 0 ≤ b ∧ b < 2147483588
theorem Rok.same {H H' : Hp} {r : Addr} (s : Same H H') (h : Rok H r) : Rok H' r := let ⟨a, b, e, k⟩ := h; ⟨a, b, s _ _ e, k⟩
theorem Rok.off {H H' : Hp} {r p : Addr} (s : Off p H H') (n : r ≠ p) (h : Rok H r) : Rok H' r := let ⟨a, b, e, k⟩ := h; ⟨a, b, s.get n e, k⟩
theorem Rok.ne {H : Hp} {r p : Addr} (h : Rok H r) (n : H p = none) : p ≠ r := let ⟨_, _, e, _⟩ := h; (ne_of_none e n).symm
/-- a comprehension whose element draws -/
theorem l_rng {J : It} {xs : List V} {G : Hp → Prop} (W : Wk J xs G) {g : TG} {te : TE} {vs : List Nat} {Q : VK} {σ : L2.St} {H1 : Hp} (r : Addr) (ok : Nat → V → Prop) (hlen : xs.length < sizeLine) (h0 : Rok H1 r) (hG : ∀ H', Off r H1 H' → G H')
    (hs : ∀ (i : Nat) x H' (R : VK), xs[i]? = some x → Off r H1 H' → Rok H' r → (∀ y H'', ok i y → Off r H' H'' → Rok H'' r → R y H'') → g x (wipe σ vs) H' fun σ2 H2 => wipe σ2 vs = wipe σ vs ∧ te σ2 H2 R)
    (q : ∀ D H' ys, H1 D = none → D ≠ r → Off r H1 H' → Rok H' r → H' D = some (.lst ys) → ys.length = xs.length → (∀ (i : Nat) y, ys[i]? = some y → ok i y) → Q (.ref D) H') : LcR J g tYes te vs σ H1 Q := by
  refine l_wk W fun D H0 n0 s0 e0 => ⟨fun i ys H => Off r H1 H ∧ Rok H r ∧ H D = some (.lst ys) ∧ ys.length = i ∧ ∀ (j : Nat) y, ys[j]? = some y → ok j y, ⟨.of_same s0, h0.same s0, e0, rfl, fun j y h => by simp at h⟩, fun i ys H h => hG _ h.1, fun i ys x H hx h => ?_, fun ys H h => ?_⟩
  · obtain ⟨o1, r1, e1, hl, hy⟩ := h
    have hi : i < xs.length := (List.getElem?_eq_some_iff.mp hx).1
    have hDr : D ≠ r := h0.ne n0
    let R : VK := fun y H4 => LcEl D (fun ys H => Off r H1 H ∧ Rok H r ∧ H D = some (.lst ys) ∧ ys.length = i + 1 ∧ ∀ (j : Nat) y, ys[j]? = some y → ok j y) y H4
    have e : (fun (σ2 : L2.St) H2 => wipe σ2 vs = wipe σ vs ∧ tYes σ2 H2 fun b H3 => if b = true then te σ2 H3 R else ∃ ys, Off r H1 H3 ∧ Rok H3 r ∧ H3 D = some (.lst ys) ∧ ys.length = i + 1 ∧ ∀ (j : Nat) y, ys[j]? = some y → ok j y) = fun σ2 H2 => wipe σ2 vs = wipe σ vs ∧ te σ2 H2 R := by
      funext σ2 H2
      show (_ ∧ if true = true then te σ2 H2 R else (∃ ys, Off r H1 H2 ∧ Rok H2 r ∧ H2 D = some (.lst ys) ∧ ys.length = i + 1 ∧ ∀ (j : Nat) y, ys[j]? = some y → ok j y)) = _
      rw [if_pos rfl]
    rw [e]
    refine hs i x H R hx o1 r1 fun y H'' hk o2 r2 => ?_
    refine i_lcEl (Off.get o2 hDr e1) (by omega) fun H5 o5 e5 => ⟨Off.thenF o5 n0 (Off.refl _ _) (o1.trans o2), r2.off o5 hDr.symm, e5, by simp [hl], fun j z hj => ?_⟩
    by_cases hlt : j < ys.length
    · rw [List.getElem?_append_left hlt] at hj
      exact hy j z hj
    · have hj' : j = i := by
        have := (List.getElem?_eq_some_iff.mp hj).1
        rw [List.length_append] at this
        simp at this
        omega
      subst hj'
      rw [← hl, List.getElem?_append_right (Nat.le_refl _)] at hj
      simp at hj
      rw [← hj]; exact hk
  · obtain ⟨o1, r1, e1, hl, hy⟩ := h
    exact q D H ys n0 (h0.ne n0) o1 r1 e1 hl hy
end KX

namespace KX
open PySem PySem.Spec PyProof.Rows L2
/-! ### what stands at one address stays -/
def Kp (a : Addr) (H H' : Hp) : Prop := ∀ o, H a = some o → H' a = some o
theorem Kp.refl {a : Addr} {H : Hp} : Kp a H H := fun _ e => e
theorem Kp.thenS {a : Addr} {H H1 H2 : Hp} (b : Same H1 H2) (k : Kp a H H1) : Kp a H H2 := fun o e => b _ _ (k o e)
theorem Kp.thenO {a p : Addr} {H H1 H2 : Hp} (b : Off p H1 H2) (n : a ≠ p) (k : Kp a H H1) : Kp a H H2 := fun o e => b _ _ n (k o e)
theorem Kp.get {a : Addr} {H H' : Hp} {o : HO} (h : H a = some o) (k : Kp a H H') : H' a = some o := k o h
theorem Rok.ne' {H : Hp} {r p : Addr} (n : H p = none) (h : Rok H r) : p ≠ r := h.ne n
theorem Rok.kp {H H' : Hp} {r : Addr} (h : Rok H r) (k : Kp r H H') : Rok H' r := let ⟨a, b, e, z⟩ := h; ⟨a, b, k _ e, z⟩
/-! ### data that may be shown and compared -/
structure OkD (d : PyData) : Prop where
  sh : Shw d
  st : ∀ x, d = .str x → okS x 16777216
def okdB (d : PyData) : Bool := d.showable && (decide (d.depth ≤ 20) && (decide (d.shown.length ≤ 16777216) && match d with
  | .str x => decide (x.length ≤ 16777216) && x.cps.toList.all fun c => decide (c < 1114112)
  | _ => true))
theorem okd_of {d : PyData} (h : okdB d = true) : OkD d := by
  unfold okdB at h
  simp only [Bool.and_eq_true, decide_eq_true_eq] at h
  obtain ⟨h1, h2, h3, h4⟩ := h
  refine ⟨⟨h1, h2, by rw [sizeLine_eq]; exact h3⟩, fun x e => ?_⟩
  subst e
  simp only [Bool.and_eq_true, decide_eq_true_eq, List.all_eq_true] at h4
  exact ⟨h4.1, h4.2⟩
theorem OkD.int {i : Int} (h : i.natAbs.log2 < 1920) : OkD (.int i) := ⟨⟨by simpa [PyData.showable] using h, by simp [PyData.depth], by rw [PyData.shown_int]; exact int_text_fits h⟩, fun x e => by cases e⟩
theorem OkD.str {x : Str} {n : Nat} (h : okS x n) (k : n ≤ 100000) : OkD (.str x) := ⟨Shw.of_str h k, fun y e => by cases e; exact h.mono (by omega)⟩
/-! ### the law's call from the top, where the frames' guards are told -/
section
variable {P : Program} {w : World} {K : PySem.W.Frag} {mg mb : Str → Option Value}
abbrev scrO (us : List Value) : Obj := { cls := .type "list", data := .seq us.toArray }
def scrH (K : PySem.W.Frag) (a : Addr) (us : List Value) (ns : List Int) : Hp := fun b =>
  if b = a ∧ K.lookup a = none then some (.frz (scrO us) (.lst (ns.map V.int))) else none
theorem scrH_or (K : PySem.W.Frag) (a : Addr) (us : List Value) (ns : List Int) (b : Addr) :
    scrH K a us ns b = none ∨ (b = a ∧ K.lookup a = none ∧ scrH K a us ns b = some (.frz (scrO us) (.lst (ns.map V.int)))) := by
  unfold scrH
  by_cases h : b = a ∧ K.lookup a = none
  · exact .inr ⟨h.1, h.2, if_pos h⟩
  · exact .inl (if_neg h)
/-- what the law's def promises, at the heap behind the top -/
theorem lawG {CX : CXT} {k : Nat} {fa a : Addr} {fd : FuncData} {x : Str} {sp : Sp} {t0 : Shared} {us : List Value} {ns : List Int} (inK : K.In t0.heap) (g1 : t0.heap.Ns mainGlobals mg) (g2 : t0.heap.Ns builtinsNs mb)
    (g3 : ∀ y : Str, y ≠ "__name__" → mb y = bootBuiltins y) (g4 : t0.heap.NoLimit) (g5 : t0.gens = #[]) (there : t0.heap.get? a = some (scrO us)) (hin : IntsAre us ns) (few : ns.length ≤ sizeLine) (room : Room k callerA)
    (G : ∀ b0 : Heap, K.In b0 → b0.Ns mainGlobals mg → Fg P w K mg b0 CX k fa fd [x] sp) (binds : ∀ (s : Shared) (u : Value), BindsTo s fd ⟨[u], []⟩ [(x, u)])
    (promise : ∀ H : Hp, SqL K H a (ns.map V.int) → sp [.ref a] H (fun v _ => v = .bl true) fun _ _ _ => False) (noX : ∀ H e s', CX [] H t0 (fun _ _ _ => False) e s' → False) :
    codeAny (model P w) callerA (.call (.ref fa) ⟨[.ref a], []⟩)
      (fun r s' => r = .ok (.ret (.bool true)) ∧ OldK t0.heap s'.heap ∧ s'.os = t0.os ∧ AllBare s'.gens) t0 := by
  have rel := vals_ints hin
  have off : ∀ {b : Addr} {o : Obj}, t0.heap.get? b = some o → (b = a → K.lookup a = none → False) → (hidT t0.heap (scrH K a us ns)).get? b = some o := fun {b o} e z => by
    refine hidT_get e ?_
    rcases scrH_or K a us ns b with h | ⟨h1, h2, _⟩
    · exact h
    · exact (z h1 h2).elim
  have dicts : ∀ {b : Addr} {o : Obj} {es : Array DictEntry} {ep : Nat}, t0.heap.get? b = some o → o.data = .dict es ep → b = a → False := fun {b o es ep} e d z => by
    rw [z, there] at e
    cases e
    cases (show Data.seq us.toArray _ = Data.dict es ep from d)
  have names : ∀ {b : Addr} {m : Str → Option Value}, t0.heap.Ns b m → (hidT t0.heap (scrH K a us ns)).Ns b m := fun {b m} ⟨o, es, ep, e, d, r⟩ => ⟨o, es, ep, off e (fun z _ => dicts e d z), d, r⟩
  have inB : K.In (hidT t0.heap (scrH K a us ns)) := fun b o e => off (inK b o e) fun z1 z2 => by
    rw [z1, z2] at e
    cases e
  have top : Mod K mg (hidT t0.heap (scrH K a us ns)) := ⟨inB, names g1, ⟨mb, names g2, g3⟩, let ⟨mc, h1, h2⟩ := g4; ⟨mc, names h1, h2⟩⟩
  have hok : HOk P w (scrH K a us ns) t0.heap := fun b u z => by
    rcases scrH_or K a us ns b with h | ⟨h1, _, h3⟩
    · rw [h] at z; cases z
    · rw [h3] at z
      cases z
      subst h1
      exact ⟨there, by rw [List.length_map]; exact few, us, _, rel, there⟩
  have env : Env0 P w K mg (hidT t0.heap (scrH K a us ns)) callerA [] t0 (scrH K a us ns) :=
    ⟨rfl, top, fun b o e => of_hidT e, Nat.le_of_eq (hidT_size _ _), trivial, fun b hb => (nomatch hb), hok, .of_eq g5⟩
  have seen : SqL K (scrH K a us ns) a (ns.map V.int) := by
    cases lk : K.lookup a with
    | none => exact .inl (.inr ⟨scrO us, if_pos ⟨rfl, lk⟩⟩)
    | some o =>
      have e := inK a o lk
      rw [there] at e
      cases e
      exact .inr ⟨_, us.toArray, _, lk, rfl, rfl, rfl, by rw [List.size_toArray, hin.length]; exact few, by simpa using rel⟩
  refine codeAny_mono ((G _ inB (names g1)).run callerA [] t0 (scrH K a us ns) ⟨[.ref a], []⟩ [.ref a] [.ref a] _ _ ⟨room, rfl⟩ env (binds t0 (.ref a)) (.cons rfl .nil) (promise _ seen)) fun r s' end_ => ?_
  match r, end_ with
  | .error e, end_ => exact (noX _ e s' end_).elim
  | .ok .next, end_ => exact False.elim end_
  | .ok .brk, end_ => exact False.elim end_
  | .ok .cont, end_ => exact False.elim end_
  | .ok (.ret u), ⟨v, H', os, bare, un, hok', r', q⟩ =>
    have q' : v = .bl true := q
    subst q'
    obtain rfl : u = Value.bool true := r'
    refine ⟨rfl, OldK.of_keep fun b o e => ?_, os, bare⟩
    rcases scrH_or K a us ns b with h | ⟨h1, h2, h3⟩
    · exact un.keep b o e h (fun z => (nomatch z)) (fun z => (nomatch z))
    · have z2 := un.frzs b _ _ h3
      obtain ⟨e1, _⟩ := hok b _ h3
      obtain ⟨e2, _⟩ := hok' b _ z2
      rw [e] at e1
      cases e1
      exact e2
theorem walkG {l : PySem.W.OpenLaw} {n k : Nat} {q : Program} {loose : List Str} {XP : (Str → Option Value) → Heap → Prop} {YP : World → Heap → Prop} {d : DefRec} {K : Params → PySem.W.Frag} {CX : World → CXT} {sp : World → Sp} {x : Str} (most : l.most = some n) (few : n ≤ sizeLine)
    (plain : d.params.defaults = []) (room : Room k callerA) (inK : ∀ (w : World) (h : Heap), YP w h → (K w.params).In h)
    (G : ∀ (w : World) (mg : Str → Option Value) (fa : Addr) (h : Heap), (K w.params).In h → h.Ns mainGlobals mg → mg d.name = some (.ref fa) → ∃ fd : FuncData,
      (∀ (s : Shared) (u : Value), BindsTo s fd ⟨[u], []⟩ [(x, u)]) ∧ ∀ b0 : Heap, (K w.params).In b0 → b0.Ns mainGlobals mg → Fg l.prog w (K w.params) mg b0 (CX w) k fa fd [x] (sp w))
    (promise : ∀ (w : World) (H : Hp) (a : Addr) (ns : List Int), ns.length ≤ n → (∀ z ∈ ns, Builtin.Int.intBits z ≤ 1048576) → SqL (K w.params) H a (ns.map V.int) → sp w [.ref a] H (fun v _ => v = .bl true) fun _ _ _ => False)
    (noX : ∀ (w : World) (H : Hp) (s : Shared) (e : Value) (s' : Shared), CX w [] H s (fun _ _ _ => False) e s' → False) :
    PySem.W.WalkO q loose XP YP l.row.toRowW d [] (fun f vs => PySem.call f vs) := by
  refine Att.attach_callB most plain fun w _ t0 mg mb fa _ _ _ _ a us ns gr y _ _ _ at_ there hin len bits gens => ?_
  obtain ⟨fd, binds, hF⟩ := G w mg fa _ (inK w _ y) gr.T.g at_
  exact lawG (inK w _ y) gr.T.g gr.T.b gr.T.builtins gr.T.nolimit gens there hin (Nat.le_trans len few) room hF binds (fun H seen => promise w H a ns len bits seen) fun H e s' => noX w H t0 e s'
end
end KX

namespace KX
open PySem PySem.Spec PyProof.Rows L2
/-! ### the heap without one address, and the part that is new -/
def wo (r : Addr) (H : Hp) : Hp := fun b => if b = r then none else H b
theorem wo_get {r b : Addr} {H : Hp} (n : b ≠ r) : wo r H b = H b := if_neg n
theorem wo_same {r : Addr} {H : Hp} : Same (wo r H) H := fun b o e => by
  by_cases h : b = r
  · have e' : wo r H b = none := if_pos h
    rw [e'] at e; cases e
  · rwa [wo_get h] at e
theorem Off.wo {r : Addr} {H H' : Hp} (s : Off r H H') : Same (KX.wo r H) (KX.wo r H') := fun b o e => by
  by_cases h : b = r
  · have e' : KX.wo r H b = none := if_pos h
    rw [e'] at e; cases e
  · rw [wo_get h] at e ⊢
    exact s _ _ h e
theorem Same.wo {r : Addr} {H H' : Hp} (s : Same H H') : Same (KX.wo r H) (KX.wo r H') := Off.wo (.of_same s)
def newP (H H' : Hp) : Hp := fun b => if H b = none then H' b else none
theorem newP_same {H H' : Hp} : Same (newP H H') H' := fun b o e => by
  unfold newP at e
  split at e
  · exact e
  · cases e
theorem newP_get {H H' : Hp} {b : Addr} (h : H b = none) : newP H H' b = H' b := if_pos h
theorem newP_mono {H H1 H2 : Hp} (s : Same H1 H2) : Same (newP H H1) (newP H H2) := fun b o e => by
  unfold newP at e ⊢
  split at e
  · next h => rw [if_pos h]; exact s _ _ e
  · cases e
theorem none_of {H H1 : Hp} (s : Same H H1) {b : Addr} (h : H1 b = none) : H b = none := by
  cases e : H b with
  | none => rfl
  | some o => rw [s _ _ e] at h; cases h
theorem newP_back {H H1 H2 : Hp} (s : Same H H1) : Same (newP H1 H2) (newP H H2) := fun b o e => by
  unfold newP at e ⊢
  split at e
  · next h => rw [if_pos (none_of s h)]; exact e
  · cases e
theorem newP_wo {H H' : Hp} {r : Addr} {o : HO} (h : H r = some o) : Same (newP H H') (wo r H') := fun b u e => by
  unfold newP at e
  split at e
  · next z => rw [wo_get (fun q => by rw [q, h] at z; cases z)]; exact e
  · cases e
theorem DaAllF.len {b : Bool} {K : PySem.W.Frag} {H : Hp} : ∀ {vs : List V} {ds : List PyData}, DaAllF b K H vs ds → vs.length = ds.length
  | _, _, .nil => rfl
  | _, _, .cons _ r => congrArg (· + 1) (DaAllF.len r)
theorem DaAllF.mem {b : Bool} {K : PySem.W.Frag} {H : Hp} : ∀ {vs : List V} {ds : List PyData}, DaAllF b K H vs ds → ∀ v ∈ vs, ∃ d ∈ ds, DaF b K H v d
  | _, _, .nil, _, h => (nomatch h)
  | _, _, .cons a r, v, h => by
    rcases List.mem_cons.mp h with e | h
    · subst e; exact ⟨_, List.mem_cons_self, a⟩
    · obtain ⟨d, hd, k⟩ := DaAllF.mem r v h
      exact ⟨d, List.mem_cons_of_mem _ hd, k⟩
theorem DaAllF.app {b : Bool} {K : PySem.W.Frag} {H : Hp} : ∀ {vs us : List V} {ds es : List PyData}, DaAllF b K H vs ds → DaAllF b K H us es → DaAllF b K H (vs ++ us) (ds ++ es)
  | _, _, _, _, .nil, k => k
  | _, _, _, _, .cons a r, k => .cons a (DaAllF.app r k)
theorem okd_all {ds : List PyData} (h : ds.all okdB = true) {d : PyData} (k : d ∈ ds) : OkD d := okd_of (List.all_eq_true.mp h d k)
/-! ### written data -/
mutual
inductive Lit : Expr → PyData → Prop
  | non {j p} : Lit (.Constant .none j p) .none
  | bl {b j p} : Lit (.Constant (.bool b) j p) (.bool b)
  | int {i j p} : Lit (.Constant (.int i) j p) (.int i)
  | str {x j p} : Lit (.Constant (.str x) j p) (.str x)
  | neg {i j p p'} : Lit (.UnaryOp .USub (.Constant (.int i) j p) p') (.int (-i))
  | sub {a b i j p} : Lit a (.int i) → Lit b (.int j) → Lit (.BinOp a .Sub b p) (.int (i - j))
  | pow {a b i j p} : Lit a (.int i) → Lit b (.int j) → 0 ≤ j → j ≤ 1000000 → i.natAbs < 2 ^ 64 → Lit (.BinOp a .Pow b p) (.int (i ^ j.toNat))
  | lst {es ds p} : LitAll es ds → ds.length ≤ 1000 → Lit (.List es p) (.list ds)
  | tup {es ds x p} : LitAll es ds → ds.length ≤ 1000 → Lit (.Tuple es x p) (.tuple ds)
  | dic0 {p} : Lit (.Dict [] [] p) (.dict [])
  | dicI {i j q v d p} : Lit v d → Lit (.Dict [some (.Constant (.int i) j q)] [v] p) (.dict [(.int i, d)])
  | dicS {x j q v d p} : Lit v d → Lit (.Dict [some (.Constant (.str x) j q)] [v] p) (.dict [(.str x, d)])
inductive LitAll : List Expr → List PyData → Prop
  | nil : LitAll [] []
  | cons {e es d ds} : Lit e d → LitAll es ds → LitAll (e :: es) (d :: ds)
end
theorem Lit.star {e : Expr} {d : PyData} (h : Lit e d) (es : List Expr) (env : Env) : starEach (e :: es) env = (false, eval e env) :: starEach es env := by
  cases h <;> rfl
/-- a list display: its address is told to be none of the run's own -/
def tLstN (t : TA) : TE := fun σ H Q => t σ H fun xs H1 => xs.length ≤ sizeLine ∧ ∀ p, H1 p = none → p ≠ sysModules → Q (.ref p) (upd H1 p (.lst xs))
theorem pe_lstN {X : Cx} {es : List Expr} {t : TA} {pos : Pos} (h : PA X es t) : PE X (.List es pos) (tLstN t) :=
  ⟨fun pins s σ H Q I hq => wpAny_List_spliced (thn (h.run pos pins s σ H _ I hq) fun us t1 ⟨xs, H1, J, r, z, q⟩ => by
    have free : H1 t1.heap.objs.size = none := J.hok.fresh (Nat.le_refl _)
    refine ⟨by rw [← r.length]; exact z, .ref t1.heap.objs.size, L2.upd H1 t1.heap.objs.size (.lst xs), J.laid (t' := t1.toks) (fun b u e => Heap.get?_push_of_some _ e) (Nat.le_refl _) ?_, rfl, q _ free (Nat.ne_of_gt J.big)⟩
    exact ⟨z, us, 0, r, Heap.get?_push_size _ rfl⟩)⟩
def NewN (H : Hp) (o : HO) (Q : VK) : Prop := ∀ p, H p = none → p ≠ sysModules → Q (.ref p) (L2.upd H p o)
theorem i_newN {H : Hp} {o : HO} {Q : VK} (q : ∀ p H', H p = none → p ≠ sysModules → Same H H' → H' p = some o → Q (.ref p) H') : NewN H o Q := fun p hp hn => q p _ hp hn (same_new hp) upd_same
theorem i_lstN {t : TA} {σ : L2.St} {H : Hp} {Q : VK} (q : t σ H fun xs H1 => xs.length ≤ sizeLine ∧ NewN H1 (.lst xs) Q) : tLstN t σ H Q := q
def tLit (K : PySem.W.Frag) (d : PyData) : TE := fun _ H Q => ∀ v H', Same H H' → DaS K (newP H H') v d → Q v H'
def tLits (K : PySem.W.Frag) (ds : List PyData) : TA := fun _ H Q => ∀ vs H', Same H H' → DaAllS K (newP H H') vs ds → Q vs H'
def tLitL (K : PySem.W.Frag) (ds : List PyData) : TE := fun _ H Q => ∀ p xs H', H p = none → p ≠ sysModules → Same H H' → H' p = some (.lst xs) → DaAllS K (newP H H') xs ds → Q (.ref p) H'
theorem _root_.L2.PE.imp {X : Cx} {e : Expr} {t u : TE} (h : PE X e t) (k : ∀ σ H Q, u σ H Q → t σ H Q) : PE X e u := ⟨fun pins s σ H Q I q => h.run pins s σ H Q I (k _ _ _ q)⟩
theorem _root_.L2.PA.imp {X : Cx} {es : List Expr} {t u : TA} (h : PA X es t) (k : ∀ σ H Q, u σ H Q → t σ H Q) : PA X es u := ⟨fun pos pins s σ H Q I q => h.run pos pins s σ H Q I (k _ _ _ q)⟩
theorem one_dict {H : Hp} {p : Addr} {k : Key} {v : V} {K : PySem.W.Frag} {H1 H2 : Hp} {d : PyData} (hp : H p = none) (s1 : Same (upd H p (.dK [])) H1) (hd : DaS K (newP (upd H p (.dK [])) H1) v d) (e : H2 = upd H1 p (.dK [(k, v)])) :
    Same H H2 ∧ DaS K (newP H H2) (.ref p) (.dict [(keyD k, d)]) := by
  subst e
  have h1 : H1 p = some (.dK []) := s1 _ _ upd_same
  have sH : Same H H1 := (same_new hp).trans s1
  have sn : Same (newP (upd H p (.dK [])) H1) (newP H (upd H1 p (.dK [(k, v)]))) := fun b o e => by
    unfold newP at e ⊢
    split at e
    · next h =>
      have nb : b ≠ p := fun z => by rw [z, upd_same] at h; cases h
      rw [upd_ne nb] at h
      rw [if_pos h, upd_ne nb]; exact e
    · cases e
  refine ⟨fun b o e => ?_, .dic (kvs := [(k, v)]) (Rd.of ?_) (.cons (hd.same sn) .nil)⟩
  · have nb : b ≠ p := fun z => by rw [z, hp] at e; cases e
    rw [upd_ne nb]; exact sH _ _ e
  · rw [newP_get hp, upd_same]
mutual
theorem Lit.pe {X : Cx} : ∀ {e : Expr} {d : PyData}, Lit e d → PE X e (tLit X.K d)
  | _, _, .non => pe_non.imp fun σ H Q q => q _ _ (Same.refl _) .non
  | _, _, .bl => pe_bl.imp fun σ H Q q => q _ _ (Same.refl _) (.bl _)
  | _, _, .int => pe_int.imp fun σ H Q q => q _ _ (Same.refl _) (.int _)
  | _, _, .str => pe_str.imp fun σ H Q q => q _ _ (Same.refl _) (.str _)
  | _, _, .neg => (pe_un un_neg pe_int).imp fun σ H Q q => ⟨_, rfl, q _ _ (Same.refl _) (.int _)⟩
  | _, _, .sub ha hb => (pe_op op_sub ha.pe hb.pe).imp fun σ H Q q v H1 s1 hv w H2 s2 hw => by
      cases hv; cases hw
      exact ⟨_, _, rfl, rfl, q _ _ (s1.trans s2) (.int _)⟩
  | _, _, .pow ha hb j0 j1 i1 => (pe_op op_pow ha.pe hb.pe).imp fun σ H Q q v H1 s1 hv w H2 s2 hw => by
      cases hv; cases hw
      exact ⟨_, _, rfl, rfl, ⟨j0, j1, i1⟩, q _ _ (s1.trans s2) (.int _)⟩
  | _, _, .lst h l => (pe_lstN h.pa).imp fun σ H Q q vs H1 s1 hd => ⟨by rw [hd.len, sizeLine_eq]; exact Nat.le_trans l (by decide), fun p hp hn =>
      q _ _ (s1.trans (same_new hp)) (.lst (SqL.of (by rw [newP_get (none_of s1 hp), upd_same])) (fun _ => hn) (hd.same (newP_mono (same_new hp))))⟩
  | _, _, .tup h l => (pe_tup h.pa).imp fun σ H Q q vs H1 s1 hd => ⟨by rw [hd.len, sizeLine_eq]; exact Nat.le_trans l (by decide), fun p hp =>
      q _ _ (s1.trans (same_new hp)) (.tup (SqT.of (by rw [newP_get (none_of s1 hp), upd_same])) (hd.same (newP_mono (same_new hp))))⟩
  | _, _, .dic0 => pe_dnewK.imp fun σ H Q q p hp => q _ _ (same_new hp) (.dic (Rd.of (by rw [newP_get hp, upd_same])) .nil)
  | _, _, .dicI h => (pe_disp (pps_cons pe_int h.pe pps_nil) (by rfl) (by rfl) (fun z => by cases z) (by show 1 ≤ 15; decide)).imp fun σ H Q q p hp v H1 s1 hd => by
      obtain ⟨a, b⟩ := one_dict (k := .inl _) hp s1 hd rfl
      exact ⟨s1 _ _ upd_same, [(.inl _, v)], rfl, (by show 1 ≤ 15; decide), q _ _ a b⟩
  | _, _, .dicS h => (pe_disp (pps_cons pe_str h.pe pps_nil) (by rfl) (by rfl) (fun z => by cases z) (by show 1 ≤ 15; decide)).imp fun σ H Q q p hp v H1 s1 hd => by
      obtain ⟨a, b⟩ := one_dict (k := .inr _) hp s1 hd rfl
      exact ⟨s1 _ _ upd_same, [(.inr _, v)], rfl, (by show 1 ≤ 15; decide), q _ _ a b⟩
theorem LitAll.pa {X : Cx} : ∀ {es : List Expr} {ds : List PyData}, LitAll es ds → PA X es (tLits X.K ds)
  | _, _, .nil => pa_nil.imp fun σ H Q q => q _ _ (Same.refl _) .nil
  | _, _, .cons h t => (pa_cons h.pe t.pa (h.star _ _)).imp fun σ H Q q v H1 s1 hd vs H2 s2 hds =>
      q _ _ (s1.trans s2) (.cons (hd.same (newP_mono s2)) (hds.same (newP_back s1)))
end
theorem pe_litL {X : Cx} {es : List Expr} {ds : List PyData} {p : Pos} (h : LitAll es ds) (l : ds.length ≤ 1000) : PE X (.List es p) (tLitL X.K ds) :=
  (pe_lstN h.pa).imp fun σ H Q q vs H1 s1 hd => ⟨by rw [hd.len, sizeLine_eq]; exact Nat.le_trans l (by decide), fun p hp hn =>
    q _ _ _ (none_of s1 hp) hn (s1.trans (same_new hp)) upd_same (hd.same (newP_mono (same_new hp)))⟩
theorem i_lit {K : PySem.W.Frag} {d : PyData} {σ : L2.St} {H : Hp} {Q : VK} (q : ∀ v H', Same H H' → DaS K (newP H H') v d → Q v H') : tLit K d σ H Q := q
theorem i_litL {K : PySem.W.Frag} {ds : List PyData} {σ : L2.St} {H : Hp} {Q : VK} (q : ∀ p xs H', H p = none → p ≠ sysModules → Same H H' → H' p = some (.lst xs) → DaAllS K (newP H H') xs ds → Q (.ref p) H') : tLitL K ds σ H Q := q
/-! ### bounds on what is shown -/
theorem i_rEqSame {H : Hp} {Q : VK} {x : V} (h : scal x x = true) (q : Q (.bl true) H) : rEq x x H Q := ⟨h, by rw [decide_eq_true (rfl : x = x)]; exact q⟩
theorem i_rNeSame {H : Hp} {Q : VK} {x : V} (h : scal x x = true) (q : Q (.bl false) H) : rNe x x H Q := ⟨h, by rw [decide_eq_true (rfl : x = x)]; exact q⟩
structure Sh (d : PyData) (n k : Nat) : Prop where
  ok : d.showable = true
  dp : d.depth ≤ k
  ln : d.shown.length ≤ n
theorem Sh.mono {d : PyData} {n k n' k' : Nat} (h : Sh d n k) (a : n ≤ n') (b : k ≤ k') : Sh d n' k' := ⟨h.ok, Nat.le_trans h.dp b, Nat.le_trans h.ln a⟩
theorem Sh.shw {d : PyData} {n k : Nat} (h : Sh d n k) (a : n ≤ 16777216) (b : k ≤ 20) : Shw d := ⟨h.ok, Nat.le_trans h.dp b, by rw [sizeLine_eq]; exact Nat.le_trans h.ln a⟩
theorem join_le (sep : Str) {n : Nat} : ∀ ts : List Str, (∀ t ∈ ts, t.length ≤ n) → (Str.join sep ts).length ≤ ts.length * (n + sep.length)
  | [], _ => by show 0 ≤ _; omega
  | [x], h => by
    have := h x (by simp)
    show x.length ≤ 1 * (n + sep.length)
    omega
  | x :: y :: r, h => by
    have h1 := h x (by simp)
    have ih := join_le sep (y :: r) (fun t ht => h t (List.mem_cons_of_mem _ ht))
    show (x ++ sep ++ Str.join sep (y :: r)).length ≤ _
    rw [Str.length_append, Str.length_append]
    have e : (x :: y :: r).length * (n + sep.length) = (y :: r).length * (n + sep.length) + (n + sep.length) := by
      rw [List.length_cons, Nat.add_mul, Nat.one_mul]
    omega
theorem shownAll_mem : ∀ {ds : List PyData} {t : Str}, t ∈ PyData.shownAll ds → ∃ d ∈ ds, d.shown = t
  | [], t, h => by rw [PyData.shownAll_nil] at h; cases h
  | d :: ds, t, h => by
    rw [PyData.shownAll_cons] at h
    rcases List.mem_cons.mp h with e | h
    · exact ⟨d, List.mem_cons_self, e.symm⟩
    · obtain ⟨e, he, k⟩ := shownAll_mem h
      exact ⟨e, List.mem_cons_of_mem _ he, k⟩
theorem depthAll_le {k : Nat} : ∀ {ds : List PyData}, (∀ d ∈ ds, d.depth ≤ k) → PyData.depthAll ds ≤ k
  | [], _ => by simp [PyData.depthAll]
  | d :: ds, h => by
    have h1 := h d List.mem_cons_self
    have h2 := depthAll_le (ds := ds) fun e he => h e (List.mem_cons_of_mem _ he)
    simp only [PyData.depthAll]
    omega
theorem Sh.lst {ds : List PyData} {n k : Nat} (h : ∀ d ∈ ds, Sh d n k) : Sh (.list ds) (ds.length * (n + 2) + 2) (k + 1) := by
  refine ⟨by simp only [PyData.showable]; exact showableAll_of fun d hd => (h d hd).ok, ?_, ?_⟩
  · have := depthAll_le fun d hd => (h d hd).dp
    simp only [PyData.depth]; omega
  · rw [PyData.shown_list, Str.length_append, Str.length_append]
    have := join_le (", " : Str) (n := n) (PyData.shownAll ds) fun t ht => by
      obtain ⟨d, hd, e⟩ := shownAll_mem ht
      rw [← e]; exact (h d hd).ln
    rw [PyData.shownAll_length] at this
    have e1 : ("[" : Str).length = 1 := by decide +kernel
    have e2 : ("]" : Str).length = 1 := by decide +kernel
    have e3 : (", " : Str).length = 2 := by decide +kernel
    rw [e3] at this
    omega
theorem Sh.tup {ds : List PyData} {n k : Nat} (h : ∀ d ∈ ds, Sh d n k) : Sh (.tuple ds) (ds.length * (n + 2) + 3) (k + 1) := by
  refine ⟨by simp only [PyData.showable]; exact showableAll_of fun d hd => (h d hd).ok, ?_, ?_⟩
  · have := depthAll_le fun d hd => (h d hd).dp
    simp only [PyData.depth]; omega
  · rw [PyData.shown_tuple, Str.length_append, Str.length_append]
    have := join_le (", " : Str) (n := n) (PyData.shownAll ds) fun t ht => by
      obtain ⟨d, hd, e⟩ := shownAll_mem ht
      rw [← e]; exact (h d hd).ln
    rw [PyData.shownAll_length] at this
    have e1 : ("(" : Str).length = 1 := by decide +kernel
    have e3 : (", " : Str).length = 2 := by decide +kernel
    have e2 : (((if (ds.length == 1) = true then ",)" else ")" : String) : Str)).length ≤ 2 := by
      split <;> decide +kernel
    rw [e3] at this
    omega
theorem Sh.bl {b : Bool} : Sh (.bool b) 5 0 := by cases b <;> exact ⟨by decide +kernel, by decide +kernel, by decide +kernel⟩
theorem Sh.non : Sh .none 4 0 := ⟨by decide +kernel, by decide +kernel, by decide +kernel⟩
theorem Sh.int {i : Int} (h : i.natAbs.log2 < 1920) : Sh (.int i) 1921 0 := ⟨by simpa [PyData.showable] using h, by simp [PyData.depth], by rw [PyData.shown_int]; exact int_text_len_1921 h⟩
theorem Sh.str {x : Str} {n : Nat} (h : okS x n) : Sh (.str x) (10 * n + 2) 0 := ⟨rfl, by simp [PyData.depth], shown_str_le h⟩
theorem shw_b2 (a b : Bool) : Shw (.list [.bool a, .bool b]) := (Sh.lst (ds := [.bool a, .bool b]) (n := 5) (k := 0) fun d hd => by
  simp only [List.mem_cons, List.not_mem_nil, or_false] at hd
  rcases hd with rfl | rfl <;> exact Sh.bl).shw (by show 2 * 7 + 2 ≤ _; decide) (by decide)
end KX

namespace KX
open PySem PySem.Spec PyProof.Rows L2
/-! ### own exception classes over any built-in base -/
structure BaseF (newId initId : String) (bmB : List Value) : Prop where
  ex : ∃ B, ExcBaseFacts B newId initId bmB ∧ StoreFacts B bmB "object.__setattr__" "object"
  hand : PySem.W.handedIn (.builtin initId) = true
abbrev tailOf (B : String) : List Value := [.type B, .type "Exception", .type "BaseException", .type "object"]
theorem baseV : BaseF "ValueError.__new__" "ValueError.__init__" (tailOf "ValueError") := ⟨⟨_, PySem.F.excBase_ValueError, PySem.F.store_ValueError⟩, by decide +kernel⟩
theorem baseL : BaseF "LookupError.__new__" "LookupError.__init__" (tailOf "LookupError") := ⟨⟨_, PySem.F.excBase_LookupError, PySem.F.store_LookupError⟩, by decide +kernel⟩
theorem baseR : BaseF "RuntimeError.__new__" "RuntimeError.__init__" (tailOf "RuntimeError") := ⟨⟨_, PySem.F.excBase_RuntimeError, PySem.F.store_RuntimeError⟩, by decide +kernel⟩
theorem baseA : BaseF "ArithmeticError.__new__" "ArithmeticError.__init__" (tailOf "ArithmeticError") := ⟨⟨_, PySem.F.excBase_ArithmeticError, PySem.F.store_ArithmeticError⟩, by decide +kernel⟩
/-- what the written part tells of such a class -/
structure OexB (K : PySem.W.Frag) (newId initId : String) (bmB : List Value) (C : Addr) : Prop where
  bf : BaseF newId initId bmB
  ini : PySem.W.excInitIn K C bmB newId = true
  ov : PySem.W.excOver K C bmB = true
  sa : PySem.W.findIn K (.ref C) "__setattr__" = some (some (.builtin "object.__setattr__"))
  hd : PySem.W.hasDictIn K C = true
  exC : PySem.W.subIn K (.ref C) (.type "BaseException") = some true
  tyC : PySem.W.typeIn K (.ref C) = some (.type "type")
  kC : PySem.W.keepIn K (.ref C) = true
section
open PySem.W
variable {prog : Program} {w : World} {A : Around} {R : Result → Shared → Prop} {s : Shared} {K : PySem.W.Frag} {B : String} {bmB : List Value} {C x t1 : Addr} {name : Str} {tk : Tok} {v : Value}
/-- x.name = v, x an exception without a dict as yet -/
theorem osb_new (SF : StoreFacts B bmB "object.__setattr__" "object") (inK : K.In s.heap) (hx : s.heap.get? x = some (excObj C t1 none .none)) (ov : excOver K C bmB = true) (ht : takerIn K C name = some none) (hh : hasDictIn K C = true)
    (q : ∀ h' tk', (∀ b o, b ≠ x → s.heap.get? b = some o → h'.get? b = some o) → h'.get? x = some (excObj C t1 (some s.heap.objs.size) .none) → h'.Ns1 s.heap.objs.size (fun y => if y = name then some v else none) → R (.ok (.ret .none)) { s with heap := h', toks := tk' }) :
    codeAny (model prog w) A (.call (.builtin "object.__setattr__") ⟨[.ref x, .str name tk, v], []⟩) R s := by
  have lt := Heap.lt_size hx
  refine osa_openX (od := none) SF inK ⟨hx, rfl, rfl, trivial⟩ ov ht fun b => ?_
  obtain ⟨cd, hc, hd⟩ := any_some hh
  refine wpAny_bind (wpAny_pure (wpAny_bind (instanceDict_exc hx (looks_clsIn inK hc) hd ?_)))
  show wpAny _ _ (Builtin.ObjectAttr.storeInDict s.heap.objs.size (.str name tk) name v) _ _ _
  obtain ⟨hp, g, d, t, os⟩ := s
  have far : x ≠ hp.objs.size := Nat.ne_of_lt lt
  have at1 : (hp.push (dictOf [] 0)).get? x = some (excObj C t1 none .none) := Heap.get?_push_of_some _ hx
  refine PySem.HandSPX.store_in_new ⟨_, #[], _, (Heap.get?_update_ne _ _ _ _ far.symm).trans (Heap.get?_push_at rfl rfl), rfl, fun e he => absurd he (by simp), fun _ => rfl⟩ fun h' tk' hn hs => ?_
  refine q h' tk' (fun b o nb e => ?_) ?_ hn
  · exact (hs.2 b (Nat.ne_of_lt (Heap.lt_size e))).trans ((Heap.get?_update_ne _ _ _ _ nb).trans (Heap.get?_push_of_some _ e))
  · exact (hs.2 x far).trans (Heap.get?_update_self _ at1 rfl)
/-- .. that has its dict at dx -/
theorem osb_old {dx : Addr} {m0 : Str → Option Value} {nl : List Str} (SF : StoreFacts B bmB "object.__setattr__" "object") (inK : K.In s.heap) (hx : s.heap.get? x = some (excObj C t1 (some dx) .none)) (hns : s.heap.Ns1 dx m0) (hw : Within m0 nl) (few : nl.length ≤ 1000)
    (ov : excOver K C bmB = true) (ht : takerIn K C name = some none) (hh : hasDictIn K C = true)
    (q : ∀ h' tk', (∀ b o, b ≠ dx → s.heap.get? b = some o → h'.get? b = some o) → h'.Ns1 dx (fun y => if y = name then some v else m0 y) → R (.ok (.ret .none)) { s with heap := h', toks := tk' }) :
    codeAny (model prog w) A (.call (.builtin "object.__setattr__") ⟨[.ref x, .str name tk, v], []⟩) R s := by
  obtain ⟨oD, _, _, hoD, _, _⟩ := hns.count hw
  refine osa_openX (od := some oD) SF inK ⟨hx, rfl, rfl, hoD⟩ ov ht fun b => ?_
  obtain ⟨cd, hc, hd⟩ := any_some hh
  refine wpAny_bind (wpAny_pure (wpAny_bind (wpAny_bind (wpAny_loadPart hx (wpAny_bind ((looks_clsIn inK hc).here ?_))))))
  rw [hd]
  refine wpAny_pure (a := some dx) ?_
  show wpAny _ _ (Builtin.ObjectAttr.storeInDict dx (.str name tk) name v) _ _ _
  obtain ⟨hp, g, d, t, os⟩ := s
  exact PySem.OEX.store_in_old hns hw few fun h' tk' hn hs => q h' tk' (fun b o nb e => (hs.2 b nb).trans e) hn
end
section
variable {X : Cx} {pins : List (Addr × Obj)} {σ : L2.St} {H : Hp} {s : Shared} {newId initId : String} {bmB : List Value} {a C dx : Addr} {f : Str} {y : V} {u : Value} {fs : List (Str × V)} {Q : Unit → Shared → Prop} {E : Value → Shared → Prop} {A : Around}
/-- an exception gets its dict: what is held then -/
theorem inv_dict {h' : Heap} {t' : Nat} {t1 : Addr} (I : Inv X pins σ H s) (e : H a = some (exo a C none)) (far : s.heap.objs.size ≤ dx) (k : ∀ b o, b ≠ a → s.heap.get? b = some o → h'.get? b = some o)
    (hx : h'.get? a = some (PySem.W.excObj C t1 (some dx) .none)) (ok : ObjOk X.prog X.w H h' dx (exd dx fs)) :
    Inv X pins σ (L2.upd (L2.upd H dx (exd dx fs)) a (exo a C (some dx))) { s with heap := h', toks := t' } := by
  have free : H dx = none := I.hok.fresh far
  have ad : dx ≠ a := fun z => by rw [z, e] at free; cases free
  have old : ∀ {b o}, s.heap.get? b = some o → b ≠ dx := fun {b o} z => Nat.ne_of_lt (Nat.lt_of_lt_of_le (Heap.lt_size z) far)
  have off : ∀ {b}, b ≠ a → b ≠ dx → L2.upd (L2.upd H dx (exd dx fs)) a (exo a C (some dx)) b = H b := fun {b} z1 z2 => by rw [upd_ne z1, upd_ne z2]
  have nota : ∀ {b}, H b = none → b ≠ a := fun {b} n z => by rw [z, e] at n; cases n
  have tr : ∀ {b o}, H b = some o → exo a C none ≠ o → b ≠ a ∧ b ≠ dx := fun {b o} z n => ⟨at_ne e z n, ne_of_none z free⟩
  refine I.un ⟨fun b o z n _ _ => k b o (nota n) z, fun b o z n _ _ => ⟨o.slots, k b o (nota n) z⟩, fun b o z n _ => by rw [off (nota n) (old z)]; exact n, fun b o z _ => ?_,
    fun b xs z => ?_, fun b o v z => ?_, fun b ps z => ⟨#[], ?_⟩⟩ fun b o z => ?_
  · by_cases q : b = a
    · rw [q]; exact ⟨_, hx⟩
    · exact ⟨o, k b o q z⟩
  · obtain ⟨z1, z2⟩ := tr z exo_tup
    rw [off z1 z2]; exact z
  · obtain ⟨z1, z2⟩ := tr z exo_frz
    rw [off z1 z2]; exact z
  · obtain ⟨z1, z2⟩ := tr z exo_tbl
    rw [off z1 z2, z]; simp
  · have keepO : ∀ c q, H c = some (.own q) → L2.upd (L2.upd H dx (exd dx fs)) a (exo a C (some dx)) c = some (.own q) := fun c q hc => by
      obtain ⟨z1, z2⟩ := tr hc exo_own
      rw [off z1 z2]; exact hc
    have keepT : ∀ c xs, H c = some (.tup xs) → L2.upd (L2.upd H dx (exd dx fs)) a (exo a C (some dx)) c = some (.tup xs) := fun c xs hc => by
      obtain ⟨z1, z2⟩ := tr hc exo_tup
      rw [off z1 z2]; exact hc
    by_cases q : b = a
    · rw [q, upd_same] at z
      cases z
      rw [q]
      exact exo_ok hx
    · rw [upd_ne q] at z
      by_cases qd : b = dx
      · rw [qd, upd_same] at z
        cases z
        rw [qd]
        exact ok.stay (fun c v _ w => w) (keepO · _) keepT
      · rw [upd_ne qd] at z
        refine (I.hok b o z).stay (fun c v hc w => k c v ?_ w) (keepO · _) keepT
        rcases hc with hc | hc
        · rw [hc]; exact q
        · exact (tr hc exo_own).1
/-- self.f = y, the first one -/
theorem stb_new (T : OexB X.K newId initId bmB C) (I : Inv X pins σ H s) (e : H a = some (exo a C none)) (ht : PySem.W.takerIn X.K C f = some none) (ry : RelV y u)
    (q : ∀ dx s', H dx = none → dx ≠ a → Inv X pins σ (L2.upd (L2.upd H dx (exd dx [(f, y)])) a (exo a C (some dx))) s' → Q () s') : wpAny (model X.prog X.w) A (setAttr (.ref a) f u) Q E s := by
  obtain ⟨t1, ho⟩ := exo_at I.hok e
  obtain ⟨_, _, SF⟩ := T.bf.ex
  refine PySem.W.set_plain (od := none) I.kIn ⟨ho, rfl, rfl, trivial⟩ T.sa ?_
  refine osb_new (s := { s with toks := s.toks + 1 }) SF I.kIn ho T.ov ht T.hd fun h' tk' k hx hn => ?_
  have free : H s.heap.objs.size = none := I.hok.fresh (Nat.le_refl _)
  refine q s.heap.objs.size _ free (fun z => by rw [z, e] at free; cases free) (inv_dict (I.tok _) e (Nat.le_refl _) k hx (exd_ok hn (relO_put (fs := []) ry fun _ => True.intro)))
/-- self.f = y, a further one -/
theorem stb_old (T : OexB X.K newId initId bmB C) (I : Inv X pins σ H s) (e : H a = some (exo a C (some dx))) (ed : H dx = some (exd dx fs)) (few : fs.length ≤ 900) (ht : PySem.W.takerIn X.K C f = some none) (ry : RelV y u)
    (q : ∀ s', Inv X pins σ (L2.upd H dx (exd dx ((f, y) :: fs))) s' → Q () s') : wpAny (model X.prog X.w) A (setAttr (.ref a) f u) Q E s := by
  obtain ⟨t1, ho⟩ := exo_at I.hok e
  obtain ⟨mA, hns, rel⟩ := exd_at I.hok ed
  obtain ⟨_, _, SF⟩ := T.bf.ex
  obtain ⟨oD, _, _, hoD, _, _⟩ := hns.count (within_of rel)
  refine PySem.W.set_plain (od := some oD) I.kIn ⟨ho, rfl, rfl, hoD⟩ T.sa ?_
  refine osb_old (s := { s with toks := s.toks + 1 }) SF I.kIn ho hns (within_of rel) (by rw [List.length_map]; omega) T.ov ht T.hd fun h' tk' k hn => ?_
  obtain ⟨o, es, ep, he, r⟩ := id hn
  exact q _ (I.write (t' := tk') (x := dx) (e := dx) (by rw [ed]; exact True.intro) (.inl rfl) k ⟨o, he⟩ (exd_ok hn (relO_put ry rel)))
/-- Base.__init__(self, ..): nothing of it is told -/
theorem initb_ok {us : List Value} {Q : Value → Shared → Prop} (T : OexB X.K newId initId bmB C) (I : Inv X pins σ H s) (e : H a = some (exo a C none)) (few : us.length ≤ sizeLine) (q : ∀ s', Inv X pins σ H s' → Q .none s') :
    wpAny (model X.prog X.w) A (call (.builtin initId) (.ref a :: us)) Q E s := by
  obtain ⟨_, BF, _⟩ := T.bf.ex
  obtain ⟨nm, N, qn, bs, bm, hdct, sn, sub, ab, col, dd, k0, k1, k2, k3, k5, hC, hT⟩ := PySem.W.excInit_of I.kIn T.ini
  obtain ⟨t1, ho⟩ := exo_at I.hok e
  obtain ⟨hp, g, d, t, os⟩ := s
  refine wpAny_call (PySem.HandSPX.init_base BF hT hC ho few fun h' t2 k hx => ?_)
  have J := I.write (t' := t) (x := a) (e := a) (o := exo a C none) (by rw [e]; exact True.intro) (.inl rfl) k ⟨_, hx⟩ (exo_ok hx)
  have same : L2.upd H a (exo a C none) = H := funext fun b => by
    by_cases z : b = a
    · rw [z, upd_same, e]
    · rw [upd_ne z]
  exact q _ (same ▸ J)
end
/-! ### readings and rules -/
def tBI (K : PySem.W.Frag) (newId initId : String) (bmB : List Value) (ta : TA) : TE := fun σ H Q => ta σ H fun vs H1 =>
  ∃ (a C : Addr) (ws : List V), vs = .ref a :: ws ∧ ws.length ≤ 1000 ∧ OexB K newId initId bmB C ∧ H1 a = some (exo a C none) ∧ Q .non H1
def tStB (K : PySem.W.Frag) (newId initId : String) (bmB : List Value) (f : Str) (to te : TE) : TS := fun D σ H => te σ H fun y H1 => to σ H1 fun x H2 => ∃ a C : Addr, x = .ref a ∧ OexB K newId initId bmB C ∧ PySem.W.takerIn K C f = some none ∧
  ((H2 a = some (exo a C none) ∧ ∀ dx, H2 dx = none → dx ≠ a → D.nx σ (L2.upd (L2.upd H2 dx (exd dx [(f, y)])) a (exo a C (some dx)))) ∨
    ∃ (dx : Addr) (fs : List (Str × V)), H2 a = some (exo a C (some dx)) ∧ H2 dx = some (exd dx fs) ∧ fs.length ≤ 900 ∧ D.nx σ (L2.upd H2 dx (exd dx ((f, y) :: fs))))
/-- what the class CB hands out as its __init__: that of its built-in base -/
structure InitB (K : PySem.W.Frag) (initId : String) (CB : Addr) : Prop where
  sp : PySem.W.specialIn K (.ref CB) "__getattribute__" = some (some (.builtin "type.__getattribute__"))
  rd : PySem.W.readsIn K CB (.type "type") = true
  fc : PySem.W.findCls K (.ref CB) (.type "type") "__init__" = some (.val (.builtin initId))
section
variable {X : Cx} {o e : Expr} {es : List Expr} {to te : TE} {ta : TA} {f x : Str} {p p' p1 p2 pos : Pos} {newId initId : String} {bmB : List Value} {CB : Addr}
theorem pe_binit {pl : Sem Bool} (hg : Gl X x) (hm : X.mg x = some (.ref CB)) (hb : BaseF newId initId bmB) (ib : InitB X.K initId CB) (ha : PA X (e :: es) ta)
    (hdb : (x == ("__debug__" : Str)) = false := by decide)
    (hc : eval (.Call (.Attribute (.Name x p1) "__init__" p2) (e :: es) [] pos) X.env = (do
      let ov ← eval (.Name x p1) X.env
      standAt p2.atName
      let (f, first) ← holding [ov] (getMethod ov "__init__" pl)
      callWith pos f first (backTo pos (starEach (e :: es) X.env)) (backToKw pos (keywordEach [] X.env))) := by rfl)
    (he : starEach (e :: es) X.env = (false, eval e X.env) :: starEach es X.env := by rfl) (hpl : (backTo pos (starEach es X.env)).any (·.1) = false := by rfl) :
    PE X (.Call (.Attribute (.Name x p1) "__init__" p2) (e :: es) [] pos) (tBI X.K newId initId bmB ta) := by
  refine ⟨fun pins s σ H Q I q => ?_⟩
  refine PySem.W.methodCall_KW (ld_glob I hg hm ?_ hdb) hc
  refine PySem.W.method_cls I.kIn ib.sp (PySem.W.cls_value I.kIn ib.rd ib.fc hb.hand ?_)
  show wpAny _ _ (callWith pos (Value.builtin initId) [] (backTo pos (starEach (e :: es) X.env)) []) _ _ _
  refine PyProof.Rows.callWith_method1 (thn (ha.run pos pins _ σ H _ (I.tok _) q) fun us s1 ⟨vs, H1, I1, r1, a, C, ws, ev, few, T, ea, q⟩ => ?_) he hpl
  subst ev
  cases r1 with
  | @cons _ u0 _ ur ra rw' =>
    obtain rfl : u0 = Value.ref a := ra
    exact initb_ok T I1 ea (by rw [← Paired.length rw', sizeLine_eq]; omega) fun s' J => ⟨.non, H1, J, rfl, q⟩
theorem ps_stB (ho : PE X o to) (he : PE X e te) (hs : swapsWith e (some (.Attribute o f p')) pos.line X.env = pure false := by rfl) : PS X (.Assign [.Attribute o f p'] e pos) (tStB X.K newId initId bmB f to te) := by
  refine ⟨fun pins s σ H D I q => ?_⟩
  refine plainObj_wpAny_Assign_Attribute (thn (he.run pins s σ H _ I q) fun v s1 ⟨y, H1, I1, r1, q1⟩ => thn (ho.run pins s1 σ H1 _ I1 q1) fun u s2 ⟨x, H2, I2, r2, a, C, ex, T, ht, q⟩ => ?_) hs
  subst ex
  obtain rfl : u = Value.ref a := r2
  rcases q with ⟨ea, q⟩ | ⟨dx, fs, ea, ed, hl, q⟩
  · exact stb_new T I2 ea ht r1 fun dx s' n ne J => ⟨σ, _, J, q dx n ne⟩
  · exact stb_old T I2 ea ed hl ht r1 fun s' J => ⟨σ, _, J, q⟩
/-- C(e, ..) as what is raised -/
theorem pmk_B {CX : CXT} {C fI : Addr} {k : Nat} {fd : FuncData} {ps : List Str} {sp : Sp} (T : OexB X.K newId initId bmB C) (iC : PySem.W.findIn X.K (.ref C) "__init__" = some (some (.ref fI))) (tI : PySem.W.typeIn X.K (.ref fI) = some (.type "function"))
    (G : FnOk X.prog X.w X.K X.mg X.base CX k fI fd ps sp) (hr : Room (k + 1) X.A) (hb : Binds X.K fd ps []) (hx : Passes CX X (fun _ _ _ => False)) (hg : Gl X x) (hm : X.mg x = some (.ref C)) (ha : PA X (e :: es) ta)
    (hdb : (x == ("__debug__" : Str)) = false := by decide) (he : starEach (e :: es) X.env = (false, eval e X.env) :: starEach es X.env := by rfl) (hpl : (backTo pos (starEach es X.env)).any (·.1) = false := by rfl) :
    PMk X (.Call (.Name x p) (e :: es) [] pos) (tMkO C sp [] ta) := by
  intro pins s σ H Q I q
  obtain ⟨_, BF, _⟩ := T.bf.ex
  refine wpAny_Call_Name_kw (ld_glob I hg hm ?_ hdb)
  refine PySem.W.callWith_K (h₀ := X.base) I.ok.mod.kin T.kC (thn (ha.run pos pins s σ H _ I q) fun us s1 ⟨vs, H1, J, r, few, q1⟩ => ⟨J.kIn, ?_⟩) he hpl
  show wpAny _ _ (call (.ref C) us) _ _ _
  obtain ⟨nm, N, qn, bs, bm, hdct, sn, sub, ab, col, dd, k0, k1, k2, k3, k5, hC, hT⟩ := PySem.W.excInit_of J.kIn T.ini
  obtain ⟨hp, g, dr, tk, os⟩ := s1
  have up : hp.objs.size ≤ hp.objs.size + 1 := Nat.le_succ _
  have free : H1 (hp.objs.size + 1) = none := J.hok.fresh up
  have kk : ∀ b o, hp.get? b = some o → ((hp.push (PySem.W.kdv_tup us)).push (PySem.HandSPX.excO C hp.objs.size)).get? b = some o := fun b o z => Heap.get?_push_of_some _ (Heap.get?_push_of_some _ z)
  have there : ((hp.push (PySem.W.kdv_tup us)).push (PySem.HandSPX.excO C hp.objs.size)).get? (hp.objs.size + 1) = some (PySem.HandSPX.excO C hp.objs.size) := by heap_get
  have J2 := J.laid (t' := tk) (a := hp.objs.size + 1) (o := exo (hp.objs.size + 1) C none) (h' := (hp.push (PySem.W.kdv_tup us)).push (PySem.HandSPX.excO C hp.objs.size)) kk up (exo_ok there)
  have q2 := q1 (hp.objs.size + 1) free
  rw [List.append_nil] at q2
  have r2 : Vals (V.ref (hp.objs.size + 1) :: vs) (Value.ref (hp.objs.size + 1) :: us) := .cons rfl r
  have len : (Value.ref (hp.objs.size + 1) :: us ++ []).length = ps.length := by
    rw [List.append_nil]
    exact (r2.length.symm.trans (G.len _ _ _ _ q2))
  have fits : us.length ≤ sizeLine := by rw [← Paired.length r, sizeLine_eq]; omega
  have bind := hb ⟨(hp.push (PySem.W.kdv_tup us)).push (PySem.HandSPX.excO C hp.objs.size), g, dr, tk, os⟩ (Value.ref (hp.objs.size + 1) :: us) J2.kIn len
  rw [List.append_nil] at bind
  refine wpAny_call (PySem.HandSPX.call_own BF hT hC (PySem.W.looks_findIn J.kIn iC) (fun self => PySem.W.bind_fn J.kIn self tI) fits
    (codeAny_mono (G.run _ X.stack _ _ ⟨Value.ref (hp.objs.size + 1) :: us, []⟩ _ _ _ (fun _ _ _ => False) (hr.make C us []) (J2.env0.make C us []) bind r2 q2) fun r s' hq => ?_))
  match r, hq with
  | .error er, hq => exact hx pins σ _ _ er s' J2 hq
  | .ok .next, hq => exact False.elim hq
  | .ok .brk, hq => exact False.elim hq
  | .ok .cont, hq => exact False.elim hq
  | .ok (.ret u), ⟨v, H2, os2, bare2, un2, hok2, rv, ev, d, fs, ea, ed, hd1, q3⟩ =>
    subst ev
    obtain ⟨h2, g2, d2, t2, os'⟩ := s'
    exact ⟨rv, mk_end (raises_own T.exC T.tyC) J up kk un2 hok2 os2 bare2 ea ed hd1 q3⟩
end
/-- all that is asked of an own exception class -/
structure ExT (K : PySem.W.Frag) (newId initId : String) (bmB : List Value) (C : Addr) : Prop where
  o : OexB K newId initId bmB C
  ga : PySem.W.findIn K (.ref C) "__getattribute__" = some (some (.builtin "BaseException.__getattribute__"))
  gg : PySem.W.findIn K (.ref C) "__getattr__" = some none
  cl : PySem.W.findIn K (.ref C) "__class__" = some (some (.builtin "object.__class__"))
  hm : PySem.W.mroIn K C (.type "object") = some true
structure ClassGet (K : PySem.W.Frag) : Prop where
  hn : PySem.W.specialIn K (.builtin "object.__class__") "__get__" = some (some (.builtin "getset_descriptor.__get__"))
  ht : PySem.W.takesIn K (.builtin "object.__class__") = some true
theorem ExT.xf {K : PySem.W.Frag} {newId initId : String} {bmB : List Value} {C : Addr} (T : ExT K newId initId bmB C) : XfC K C := ⟨T.ga, T.gg, T.o.exC, T.o.hd⟩
/-- an except clause's class -/
theorem ExT.exm {K : PySem.W.Frag} {n1 n2 i1 i2 : String} {b1 b2 : List Value} {C D : Addr} {b : Bool} (_T : ExT K n1 i1 b1 C) (S : ExT K n2 i2 b2 D) (h : PySem.W.subIn K (.ref C) (.ref D) = some b) : PySem.W.exmOne K (.ref C) (.ref D) = some b :=
  PySem.W.exm_ref S.o.exC S.o.hd S.o.tyC h
/-- isinstance(e, c), e the exception that the suite holds: its class D and dict are told -/
def rIsX (K : PySem.W.Frag) (cls : Value) (d : Option Addr) (a : Addr) : List V → Hp → VK → Prop := fun xs H Q => ∃ (D : Addr) (c : V) (cv : Value) (b : Bool), cls = .ref D ∧ (∃ n i m, ExT K n i m D) ∧ ClassGet K ∧ xs = [.ref a, c] ∧ (∀ u, RelV c u → u = cv) ∧ PySem.W.kitOne K (.ref D) cv = some b ∧
  (∀ dd, d = some dd → ∃ fs, H dd = some (.xd fs)) ∧ Q (.bl b) H
theorem i_isX {K : PySem.W.Frag} {a D : Addr} {d : Option Addr} {c : V} {cv : Value} {b : Bool} {n i : String} {m : List Value} {H : Hp} {Q : VK} (T : ExT K n i m D) (G : ClassGet K) (h : ∀ u, RelV c u → u = cv) (k : PySem.W.kitOne K (.ref D) cv = some b) (hd : ∀ dd, d = some dd → ∃ fs, H dd = some (.xd fs)) (q : Q (.bl b) H) :
    rIsX K (.ref D) d a [.ref a, c] H Q := ⟨D, c, cv, b, rfl, ⟨n, i, m, T⟩, G, rfl, h, k, hd, q⟩
theorem rel_ref {a : Addr} : ∀ u, RelV (.ref a) u → u = Value.ref a := fun u r => r
theorem rel_ty {n : String} : ∀ u, RelV (.ty n) u → u = Value.type n := fun u r => r
theorem hasD {K : PySem.W.Frag} {C : Addr} (h : PySem.W.hasDictIn K C = true) : (PySem.W.clsIn K C).isSome = true := by
  obtain ⟨cd, hc, _⟩ := PySem.W.any_some h
  rw [hc]; rfl
theorem call_isX {X : Cx} {a : Addr} {cls : Value} {d : Option Addr} {oe : Obj} {pn : List (Addr × Obj)} (hz : Zc cls d oe) (hf : ∃ vs, oe.data = .fields vs) : CallR (X.suite a ((a, oe) :: pn)) (.builtin "isinstance") (rIsX X.K cls d a) := by
  intro pins s σ H xs us Q I r h
  obtain ⟨D, c, cv, b, rfl, ⟨_, _, _, T⟩, G, rfl, hcv, k, hd, q⟩ := h
  obtain ⟨u1, u2, rfl, r1, r2⟩ : ∃ u1 u2, us = [u1, u2] ∧ RelV (.ref a) u1 ∧ RelV c u2 := by
    cases r with
    | cons r1 r => cases r with
      | cons r2 r => cases r; exact ⟨_, _, rfl, r1, r2⟩
  cases r1
  obtain rfl := hcv _ r2
  obtain ⟨there, _⟩ := I.pin (a, oe) (List.mem_append.mpr (.inl List.mem_cons_self))
  obtain ⟨vs, hv⟩ := hf
  have nc : PySem.W.notCls oe = true := by unfold PySem.W.notCls; rw [hv] <;> rfl
  have J : ∃ od, PySem.W.InstAt s.heap a oe D od := by
    cases d with
    | none => exact ⟨none, there, hz.1, nc, by rw [hz.2]; trivial⟩
    | some dd =>
      obtain ⟨fs, e⟩ := hd dd rfl
      obtain ⟨mA, ⟨o, es, ep, ho, _⟩, _⟩ : ObjOk X.prog X.w H s.heap dd (.xd fs) := I.hok dd _ e
      exact ⟨some o, there, hz.1, nc, by rw [hz.2]; exact ho⟩
  obtain ⟨od, J⟩ := J
  exact PySem.W.kia_one (PySem.W.kitx_exc (hasD T.o.hd) T.ga T.gg T.o.exC T.cl G.hn G.ht T.hm) I.kIn J k (fun z => nomatch z) fun tk => ⟨.bl b, H, I.kept (t' := tk) fun _ _ z => z, rfl, q⟩
/-- repr within an except suite -/
theorem call_reprS {X : Cx} {a : Addr} {pn : List (Addr × Obj)} {k : Nat} (hr : Rg k X.A) : CallR (X.suite a pn) (.builtin "repr") (rRepr X.K) :=
  call_reprD (X := X.suite a pn) hr.gd (by have := hr.room.un; show X.A.units + 100 < cLine; omega)
/-! ### readings -/
section
variable {K : PySem.W.Frag} {σ : L2.St} {H : Hp} {Q : VK} {newId initId : String} {bmB : List Value}
theorem i_bi {ta : TA} (q : ta σ H fun vs H1 => ∃ (a C : Addr) (ws : List V), vs = .ref a :: ws ∧ ws.length ≤ 1000 ∧ OexB K newId initId bmB C ∧ H1 a = some (exo a C none) ∧ Q .non H1) : tBI K newId initId bmB ta σ H Q := q
theorem i_stB {f : Str} {to te : TE} {nx bk ct : L2.St → Hp → Prop} (q : te σ H fun y H1 => to σ H1 fun x H2 => ∃ a C : Addr, x = .ref a ∧ OexB K newId initId bmB C ∧ PySem.W.takerIn K C f = some none ∧
    ((H2 a = some (exo a C none) ∧ ∀ dx, H2 dx = none → dx ≠ a → nx σ (L2.upd (L2.upd H2 dx (exd dx [(f, y)])) a (exo a C (some dx)))) ∨
      ∃ (dx : Addr) (fs : List (Str × V)), H2 a = some (exo a C (some dx)) ∧ H2 dx = some (exd dx fs) ∧ fs.length ≤ 900 ∧ nx σ (L2.upd H2 dx (exd dx ((f, y) :: fs))))) : tStB K newId initId bmB f to te ⟨nx, Q, bk, ct⟩ σ H := q
/-- what an __init__ promises that stores its arguments, in order, as the fields fs -/
def spI (C : Addr) (fs : List Str) : Sp := fun vs H Q _ => ∃ (a : Addr) (ws : List V), vs = .ref a :: ws ∧ ws.length = fs.length ∧ H a = some (exo a C none) ∧
  ∀ d H', H d = none → d ≠ a → H' a = some (exo a C (some d)) → H' d = some (exd d (fs.zip ws).reverse) → (∀ b, b ≠ a → b ≠ d → H' b = H b) → Q .non H'
/-- C(..) that is raised: what is asked behind the arguments -/
def MkR (C : Addr) (sp : Sp) (vs : List V) (H1 : Hp) (W : XK) : Prop := vs.length ≤ 1000 ∧ ∀ a, H1 a = none → sp (.ref a :: (vs ++ [])) (L2.upd H1 a (exo a C none))
  (fun v H2 => v = .non ∧ ∃ (d : Addr) (fs : List (Str × V)), H2 a = some (exo a C (some d)) ∧ H2 d = some (exd d fs) ∧ H1 d = none ∧ W (.ref C) (some d) (L2.upd (del H2 a) d (.xd fs))) (fun _ _ _ => False)
theorem i_mk0 {C : Addr} {sp : Sp} {ta : TA} {W : XK} (q : ta σ H fun vs H1 => MkR C sp vs H1 W) : tMkO C sp [] ta σ H W := q
/-- .. over a heap that is told by what it holds -/
theorem i_mkR {C : Addr} {fs : List Str} {vs : List V} {W : XK} (hl : vs.length = fs.length) (few : fs.length ≤ 1000) (h : ∀ d H2, H d = none → Same H H2 → H2 d = some (.xd (fs.zip vs).reverse) → W (.ref C) (some d) H2) : MkR C (spI C fs) vs H W := by
  refine ⟨by omega, fun a ha => ⟨a, vs, by rw [List.append_nil], hl, upd_same, fun d H' hd ne ea ed off => ⟨rfl, d, _, ea, ed, by rwa [upd_ne ne] at hd, ?_⟩⟩⟩
  rw [upd_ne ne] at hd
  refine h d _ hd (fun b o e => ?_) upd_same
  have n1 : b ≠ a := ne_of_none e ha
  have n2 : b ≠ d := ne_of_none e hd
  rw [upd_ne n2, del_ne n1, off b n1 n2, upd_ne n1]
  exact e
end
def tRaise (t : L2.St → Hp → XK → Prop) (W : WX) : TS := fun _ σ H => t σ H fun cls d H' => W cls d σ H'
theorem ps_raiseN {X : Cx} {W : WX} {e : Expr} {t : L2.St → Hp → XK → Prop} {pos : Pos} (hc : X.calm = true) (tk : Takes X W) (he : PMk X e t) : PS X (.Raise (some e) none pos) (tRaise t W) := ps_raise hc tk he
theorem i_raise {t : L2.St → Hp → XK → Prop} {W : WX} {D : Ends} {σ : L2.St} {H : Hp} (q : t σ H fun cls d H' => W cls d σ H') : tRaise t W D σ H := q
/-- a call that may raise, in a try's body -/
def tCallX (sp : Sp) (E : L2.St → XK) (t : TA) : TE := fun σ H Q => t σ H fun vs H1 => sp vs H1 Q (E σ)
theorem pe_callX {X : Cx} {CX : CXT} {k : Nat} {f : Addr} {fd : FuncData} {ps : List Str} {sp : Sp} {E : L2.St → XK} {x : Str} {p pos : Pos} {e : Expr} {es : List Expr} {t : TA} (F : FnOk X.prog X.w X.K X.mg X.base CX k f fd ps sp) (hr : Room k X.A) (hg : Gl X x) (hm : X.mg x = some (.ref f))
    (hk : PySem.W.keepIn X.K (.ref f) = true) (hb : Binds X.K fd ps []) (hx : ∀ σ, PassesAt CX X σ (E σ)) (ha : PA X (e :: es) t) (hdb : (x == ("__debug__" : Str)) = false := by decide)
    (he : starEach (e :: es) X.env = (false, eval e X.env) :: starEach es X.env := by rfl) (hpl : (backTo pos (starEach es X.env)).any (·.1) = false := by rfl) : PE X (.Call (.Name x p) (e :: es) [] pos) (tCallX sp E t) :=
  pe_callS F hr hg hm hk hb hx ha hdb he hpl
theorem i_callX {sp : Sp} {E : L2.St → XK} {t : TA} {σ : L2.St} {H : Hp} {Q : VK} (q : t σ H fun vs H1 => sp vs H1 Q (E σ)) : tCallX sp E t σ H Q := q
/-- try: tb / except c as n (slot i): ts -/
def tTryAs (K : PySem.W.Frag) (c : Value) (i : Nat) (tb : WX → TS) (ts : Addr → Value → Option Addr → TS) (Wout : WX) : TS := fun D σ H => tb (wAs K c i ts Wout D) D σ H
theorem ps_tryN {X : Cx} {x n : Str} {c : Value} {i : Nat} {body suite : List Stmt} {b₀ : Stmt} {np pos pos' : Pos} {tb : WX → TS} {ts : Addr → Value → Option Addr → TS} {Wout : WX} (hs : X.stack = X.env :: X.outer) (hf : X.env.frame = some X.env.locals) (hN : X.N.Nodup) (hi : X.N[i]? = some n) (hln : X.env.kindOf n = some .local)
    (hc : Names X x c) (tk : Takes X Wout) (hb : ∀ (W : WX) (pn : List (Addr × Obj)) (xe : Value → Shared → Prop), Takes (X.tr pn xe) W → PassesOwn (model X.prog X.w) X.A X.env xe → PSs (X.tr pn xe) body (tb W))
    (hsu : ∀ (a : Addr) (oe : Obj) (cls : Value) (d : Option Addr) (pn : List (Addr × Obj)), Zc cls d oe → (∃ vs, oe.data = .fields vs) → PSs (X.suite a ((a, oe) :: pn)) (b₀ :: suite) (ts a cls d)) :
    PS X (.Try body [.ExceptHandler (some (.Name x np)) (some n) (b₀ :: suite) pos'] [] [] pos) (tTryAs X.K c i tb ts Wout) := ps_try_as hs hf hN hi hln hc tk hb hsu
theorem i_tryN {K : PySem.W.Frag} {c : Value} {i : Nat} {tb : WX → TS} {ts : Addr → Value → Option Addr → TS} {Wout : WX} {D : Ends} {σ : L2.St} {H : Hp} (q : tb (wAs K c i ts Wout D) D σ H) : tTryAs K c i tb ts Wout D σ H := q
/-- the clause takes it -/
theorem i_took {K : PySem.W.Frag} {c cls : Value} {i : Nat} {ts : Addr → Value → Option Addr → TS} {Wout : WX} {D : Ends} {σ : L2.St} {H : Hp} {d : Option Addr} (e : PySem.W.exmOne K cls c = some true)
    (q : ∀ a, H a = none → ts a cls d { nx := fun σ' H' => D.nx (σ'.set i none) H', rt := D.rt, bk := fun σ' H' => D.bk (σ'.set i none) H', ct := fun σ' H' => D.ct (σ'.set i none) H' } (σ.set i (some (.ref a))) H) : WE (wAs K c i ts Wout D) σ cls d H :=
  ⟨true, e, fun _ => q, fun z => Bool.noConfusion z⟩
/-- e.n, e the exception that the suite holds -/
def tXn (K : PySem.W.Frag) (a : Addr) (cls : Value) (d : Option Addr) (n : Str) (te : TE) : TE := fun σ H Q => ∃ C : Addr, cls = .ref C ∧ XfC K C ∧ PySem.W.findIn K (.ref C) n = some none ∧ tXf a cls d C n te σ H Q
theorem pe_xfN {X : Cx} {a : Addr} {oe : Obj} {cls : Value} {d : Option Addr} {pn : List (Addr × Obj)} {e : Expr} {te : TE} {pos : Pos} {n : Str} (hz : Zc cls d oe) (hf : ∃ vs, oe.data = .fields vs) (he : PE (X.suite a ((a, oe) :: pn)) e te)
    (hb : attributeBase e n X.env (eval e X.env) = eval e X.env := by rfl) : PE (X.suite a ((a, oe) :: pn)) (.Attribute e n pos) (tXn X.K a cls d n te) :=
  ⟨fun pins s σ H Q I ⟨_, _, T, hno, q⟩ => (pe_xf T hno hz hf he hb).run pins s σ H Q I q⟩
theorem i_xfN {K : PySem.W.Frag} {a C dd : Addr} {n : Str} {te : TE} {σ : L2.St} {H : Hp} {Q : VK} (T : XfC K C) (hno : PySem.W.findIn K (.ref C) n = some none)
    (q : te σ H fun x H1 => x = .ref a ∧ ∃ (fs : List (Str × V)) (v : V), H1 dd = some (.xd fs) ∧ fs.lookup n = some v ∧ Q v H1) (mono : ∀ Q Q' : VK, (∀ v H, Q v H → Q' v H) → te σ H Q → te σ H Q') : tXn K a (.ref C) (some dd) n te σ H Q :=
  ⟨C, rfl, T, hno, mono _ _ (fun x H1 ⟨e, fs, v, h1, h2, h3⟩ => ⟨e, rfl, dd, fs, v, rfl, h1, h2, h3⟩) q⟩
/-- .. at a slot -/
theorem i_xfV {K : PySem.W.Frag} {a C dd : Addr} {n : Str} {i : Nat} {σ : L2.St} {H : Hp} {Q : VK} {fs : List (Str × V)} {v : V} (T : XfC K C) (hno : PySem.W.findIn K (.ref C) n = some none) (h : σ[i]? = some (some (.ref a))) (e : H dd = some (.xd fs)) (l : fs.lookup n = some v) (q : Q v H) :
    tXn K a (.ref C) (some dd) n (tVar i) σ H Q := ⟨C, rfl, T, hno, .ref a, h, rfl, rfl, dd, fs, v, rfl, e, l, q⟩
end KX

namespace KX
open PySem PySem.Spec PyProof.Rows L2
/-! ### further readings: texts, is, == of data -/
def rIsN : R2 := fun x y H Q => y = .non ∧ Q (.bl (decide (x = .non))) H
def rIsNotN : R2 := fun x y H Q => y = .non ∧ Q (.bl (!decide (x = .non))) H
theorem op_isNN {X : Cx} : OpR X (compareOp .Is) rIsN := op_isN
theorem op_notNN {X : Cx} : OpR X (compareOp .IsNot) rIsNotN := op_notN
def rSplit : V → List V → Hp → VK → Prop := fun x xs H Q => ∃ a b, x = .str a ∧ xs = [.str b] ∧ (b.length == 0) = false ∧ a.length + 2 ≤ sizeLine ∧ NewR H (.lst ((Txt.split a b).map V.str)) Q
theorem pe_splitN {X : Cx} {o e : Expr} {to te : TE} {apos pos : Pos} (ho : PE X o to) (he : PE X e te) (hs : starEach [e] X.env = [(false, eval e X.env)] := by rfl) (hbase : attributeBase o "split" X.env (eval o X.env) = eval o X.env := by rfl) (hline : (apos.endLine == pos.line) = true := by rfl) :
    PE X (.Call (.Attribute o "split" apos) [e] [] pos) (tM1 rSplit to te) := pe_split ho he hs hbase hline
def rFind : V → List V → Hp → VK → Prop := fun x xs H Q => ∃ a b, x = .str a ∧ xs = [.str b] ∧ Q (.int (Txt.find a b)) H
theorem pe_findN {X : Cx} {o e : Expr} {to te : TE} {apos pos : Pos} (ho : PE X o to) (he : PE X e te) (hs : starEach [e] X.env = [(false, eval e X.env)] := by rfl) (hbase : attributeBase o "find" X.env (eval o X.env) = eval o X.env := by rfl) (hline : (apos.endLine == pos.line) = true := by rfl) :
    PE X (.Call (.Attribute o "find" apos) [e] [] pos) (tM1 rFind to te) := pe_m1 PySem.F.slot_str_find PySem.F.type_str_find mt_find ho he hs hbase hline
def rStrI : List V → Hp → VK → Prop := fun xs H Q => ∃ i, xs = [.int i] ∧ i.natAbs.log2 < 1920 ∧ Q (.str (toString i)) H
theorem call_strI {X : Cx} : CallR X (.type "str") rStrI := call_str_int
def rIntS : List V → Hp → VK → Prop := fun xs H Q => ∃ a n, xs = [.str a] ∧ PySem.intText? a = some n ∧ a.length ≤ 640 ∧ Q (.int n) H
theorem call_intS {X : Cx} : CallR X (.type "int") rIntS := call_int_str
/-- f'..{x}..' -/
def tFmtN (te : TE) : TE := fun σ H Q => te σ H fun x H1 => ((∃ y : Str, x = .str y ∧ y.length ≤ sizeLine ∧ Q (.str y) H1) ∨ ∃ i : Int, x = .int i ∧ i.natAbs.log2 < 1920 ∧ Q (.str (toString i)) H1)
def FmR (x : V) (H : Hp) (Q : VK) : Prop := (∃ y : Str, x = .str y ∧ y.length ≤ sizeLine ∧ Q (.str y) H) ∨ ∃ i : Int, x = .int i ∧ i.natAbs.log2 < 1920 ∧ Q (.str (toString i)) H
def tJn (ts : List TE) : TE := fun σ H Q => tJs ts Str.empty σ H fun out H1 => Q (.str out) H1
theorem pe_joinedN {X : Cx} {v1 v2 : Expr} {rest : List Expr} {ts : List TE} {pos : Pos} (h : PJ X (v1 :: v2 :: rest) ts) : PE X (.JoinedStr (v1 :: v2 :: rest) pos) (tJn ts) := pe_joined h
def JsR (ts : List TE) (acc : Str) (σ : L2.St) (R : Str → Hp → Prop) (x : V) (H : Hp) : Prop := ∃ y : Str, x = .str y ∧ (acc ++ y).length ≤ sizeLine ∧ tJs ts (acc ++ y) σ H R
/-- text[::-1] -/
def tRevS (te : TE) : TE := fun σ H Q => te σ H fun x H1 => ∃ z : Str, x = .str z ∧ z.length ≤ sizeLine ∧ Q (.str ⟨z.cps.toList.reverse.toArray⟩) H1
def tRevLN (K : PySem.W.Frag) (te : TE) : TE := fun σ H Q => te σ H fun x H1 => ∃ a xs, x = .ref a ∧ SqL K H1 a xs ∧ NewR H1 (.lst xs.reverse) Q
theorem pe_revLN {X : Cx} {e : Expr} {te : TE} {k : Nat} {p1 p2 p3 pos : Pos} (he : PE X e te) : PE X (.Subscript e (.Slice none none (some (.UnaryOp .USub (.Constant (.int 1) k p1) p2)) p3) pos) (tRevLN X.K te) := pe_revL he
theorem shaped_lay {d : PyData} (h : SeqAt.shaped d = true) : d.canLay0 = true := by
  unfold SeqAt.shaped at h
  exact (Bool.and_eq_true_iff.mp h).1
section
variable {K : PySem.W.Frag} {σ : L2.St} {H : Hp} {Q : VK}
theorem i_isNon {x : V} (q : Q (.bl (decide (x = .non))) H) : rIsN x .non H Q := ⟨rfl, q⟩
theorem i_isNotNon {x : V} (q : Q (.bl (!decide (x = .non))) H) : rIsNotN x .non H Q := ⟨rfl, q⟩
theorem i_split {a b : Str} (h : (b.length == 0) = false) (z : a.length + 2 ≤ sizeLine) (q : NewR H (.lst ((Txt.split a b).map V.str)) Q) : rSplit (.str a) [.str b] H Q := ⟨a, b, rfl, rfl, h, z, q⟩
theorem i_find {a b : Str} (q : Q (.int (Txt.find a b)) H) : rFind (.str a) [.str b] H Q := ⟨a, b, rfl, rfl, q⟩
theorem i_strI {i : Int} (h : i.natAbs.log2 < 1920) (q : Q (.str (toString i)) H) : rStrI [.int i] H Q := ⟨i, rfl, h, q⟩
theorem i_intS {a : Str} {n : Int} (h : PySem.intText? a = some n) (z : a.length ≤ 640) (q : Q (.int n) H) : rIntS [.str a] H Q := ⟨a, n, rfl, h, z, q⟩
theorem i_fmt {te : TE} (q : te σ H fun x H1 => FmR x H1 Q) : tFmt te σ H Q := q
theorem i_fmS {y : Str} (h : y.length ≤ sizeLine) (q : Q (.str y) H) : FmR (.str y) H Q := .inl ⟨y, rfl, h, q⟩
theorem i_fmI {i : Int} (h : i.natAbs.log2 < 1920) (q : Q (.str (toString i)) H) : FmR (.int i) H Q := .inr ⟨i, rfl, h, q⟩
theorem i_jn {ts : List TE} (q : tJs ts Str.empty σ H fun out H1 => Q (.str out) H1) : tJn ts σ H Q := q
theorem i_js0 {acc : Str} {R : Str → Hp → Prop} (q : R acc H) : tJs [] acc σ H R := q
theorem i_js1 {t : TE} {ts : List TE} {acc : Str} {R : Str → Hp → Prop} (q : t σ H fun x H1 => JsR ts acc σ R x H1) : tJs (t :: ts) acc σ H R := q
theorem i_jsR {y : Str} {ts : List TE} {acc : Str} {R : Str → Hp → Prop} (z : (acc ++ y).length ≤ sizeLine) (q : tJs ts (acc ++ y) σ H R) : JsR ts acc σ R (.str y) H := ⟨y, rfl, z, q⟩
theorem i_revS {te : TE} (q : te σ H fun x H1 => ∃ z : Str, x = .str z ∧ z.length ≤ sizeLine ∧ Q (.str ⟨z.cps.toList.reverse.toArray⟩) H1) : tRevS te σ H Q := q
theorem i_exrev {z : Str} {R : Prop} (h : z.length ≤ sizeLine) (q : Q (.str ⟨z.cps.toList.reverse.toArray⟩) H) : ∃ z' : Str, V.str z = .str z' ∧ z'.length ≤ sizeLine ∧ Q (.str ⟨z'.cps.toList.reverse.toArray⟩) H := ⟨z, rfl, h, q⟩
theorem i_revL {te : TE} (q : te σ H fun x H1 => ∃ a xs, x = .ref a ∧ SqL K H1 a xs ∧ NewR H1 (.lst xs.reverse) Q) : tRevLN K te σ H Q := q
theorem i_exrevL {a : Addr} {xs : List V} (h : SqL K H a xs) (q : NewR H (.lst xs.reverse) Q) : ∃ a' xs', V.ref a = .ref a' ∧ SqL K H a' xs' ∧ NewR H (.lst xs'.reverse) Q := ⟨a, xs, rfl, h, q⟩
theorem i_par3 {i j l : Nat} {t : TA} {f g1 k : L2.St → Hp → Prop} (q : t σ H fun vs H1 => ∃ u v w, vs = [u, v, w] ∧ f (((σ.set i (some u)).set j (some v)).set l (some w)) H1) : tPar3 i j l t ⟨f, Q, g1, k⟩ σ H := q
theorem i_ex3 {R : V → V → V → Prop} {u v w : V} (q : R u v w) : ∃ u' v' w', [u, v, w] = [u', v', w'] ∧ R u' v' w' := ⟨u, v, w, rfl, q⟩
theorem i_neD {b c : Bool} {x y : V} {d e : PyData} (h : DaF b K H x d) (k : DaF c K H y e) (hd : d.hasDict = false) (he : e.hasDict = false) (sd : SeqAt.shaped d = true) (se : SeqAt.shaped e = true) (q : Q (.bl (!PyData.eqv d e)) H) : rNeD K x y H Q :=
  ⟨d, e, h.dp hd, k.dp he, sd, se, q⟩
/-- the same data -/
theorem i_neDsame {b c : Bool} {x y : V} {d : PyData} (h : DaF b K H x d) (k : DaF c K H y d) (hd : d.hasDict = false) (sd : SeqAt.shaped d = true) (q : Q (.bl false) H) : rNeD K x y H Q :=
  i_neD h k hd hd sd sd (by rw [SeqAt.eqv_refl _ (shaped_lay sd)]; exact q)
end
theorem rev_signs (z : Str) : (Builtin.Str.strSliceIndices none none (-1) z.length).filterMap (z.cps[·]?) = z.cps.toList.reverse := by
  have e : Builtin.Str.strSliceIndices none none (-1) z.length = sliceRange ((z.length : Int) - 1) (-1) (-1) := rfl
  rw [e, PySem.W.krv_sliceRange, PySem.W.krv_range, List.filterMap_reverse]
  exact congrArg List.reverse (PySem.W.krv_all z.cps)
theorem pe_revS {X : Cx} {e : Expr} {te : TE} {k : Nat} {p1 p2 p3 pos : Pos} (he : PE X e te) : PE X (.Subscript e (.Slice none none (some (.UnaryOp .USub (.Constant (.int 1) k p1) p2)) p3) pos) (tRevS te) := by
  refine ⟨fun pins s σ H Q I h => ?_⟩
  refine Subscript_ (thn (he.run pins s σ H _ I h) fun v s1 ⟨x, H1, I1, r1, z, ex, hz, q⟩ => ?_)
  subst ex
  obtain ⟨t, rfl⟩ := r1
  have step : PO X (some (.UnaryOp .USub (.Constant (.int 1) k p1) p2)) (tPart (tUn (rU fun i => .int (-i)) (tC (.int 1)))) := po_some (pe_un un_neg pe_int)
  refine wpAny_Slice (thn (po_none.run pins s1 σ H1 (fun o G => o = none ∧ G = H1) I1 ⟨rfl, rfl⟩) fun vl s2 ⟨l, G2, J2, pl, el, e2⟩ => ?_)
  subst el e2
  refine thn (po_none.run pins s2 σ G2 (fun o G => o = none ∧ G = G2) J2 ⟨rfl, rfl⟩) fun vu s3 ⟨u, G3, J3, pu, eu, e3⟩ => ?_
  subst eu e3
  refine thn (step.run pins s3 σ G3 (fun o G => o = some (-1) ∧ G = G3) J3 ⟨1, rfl, -1, rfl, rfl, rfl⟩) fun vs s4 ⟨o, G4, J4, ps, eo, e4⟩ => ?_
  subst eo e4
  have J5 : Inv X pins σ G4 { s4 with heap := s4.heap.push { cls := .type "slice", data := .fields #[vl, vu, vs] } } := J4.kept (t' := s4.toks) fun b ob q => Heap.get?_push_of_some _ q
  obtain ⟨l', rfl, e1⟩ := IsPart.raw pl
  obtain ⟨u', rfl, e2⟩ := IsPart.raw pu
  obtain ⟨c', rfl, e3⟩ := IsPart.raw ps
  cases l' with
  | some _ => cases e1
  | none => cases u' with
    | some _ => cases e2
    | none => cases c' with
      | none => cases e3
      | some c =>
        obtain ⟨c, tc⟩ := c
        cases e3
        show wpAny (model X.prog X.w) X.A (subscriptTail e (.Slice none none (some (.UnaryOp .USub (.Constant (.int 1) k p1) p2)) p3) (.str z t) (.ref s4.heap.objs.size)) (EP X pins σ Q) X.xe { s4 with heap := s4.heap.push { cls := .type "slice", data := .fields #[partValue none, partValue none, partValue (some (-1, tc))] } }
        refine tail_any (ops := [.ref s4.heap.objs.size, .str z t]) (PySem.typeIs_str _ _ _) (PySem.F.slot_str_getitem.lookup) ?_ (by with_unfolding_all rfl)
        refine wpAny_getItem_str_slice (l := none) (u := none) (st := some (-1, tc)) ⟨_, Heap.get?_push_size _ rfl, rfl, rfl⟩ rfl ?_
        show Made.post (if ((-1 : Int) == 1 && _) = true then Made.val (.str z t) else Made.str ⟨((Builtin.Str.strSliceIndices none none (-1) z.length).filterMap (z.cps[·]?)).toArray⟩) _ _
        rw [if_neg (by rw [show ((-1 : Int) == 1) = false from rfl, Bool.false_and]; exact Bool.false_ne_true), rev_signs]
        refine ⟨?_, .str _, G4, J5.tok _, ⟨_, rfl⟩, q⟩
        show (z.cps.toList.reverse.toArray).size ≤ sizeLine
        rw [List.size_toArray, List.length_reverse]; exact hz
end KX

namespace KX
open PySem PySem.Spec PyProof.Rows L2
/-! ### versions and windows as data -/
def verD : PyData → Bool
  | .int i => decide (0 ≤ i)
  | _ => false
def winP : PyData → Option (Int × Option Int)
  | .tuple [.int l, .none] => if 0 ≤ l then some (l, none) else none
  | .tuple [.int l, .int h] => if 0 ≤ l ∧ 0 ≤ h ∧ l ≤ h then some (l, some h) else none
  | _ => none
def winB (d : PyData) : Bool := (winP d).isSome
def isN : PyData → Bool
  | .none => true
  | _ => false
def leD : PyData → PyData → Bool
  | .int i, .int k => decide (i ≤ k)
  | _, _ => false
theorem winB_two (a b : PyData) : winB (.tuple [a, b]) = (verD a && (isN b || (verD b && leD a b))) := by
  unfold winB winP verD isN leD
  cases a <;> cases b <;> simp
  all_goals (split <;> simp_all <;> omega)
theorem winB_len {ds : List PyData} (h : ds.length ≠ 2) : winB (.tuple ds) = false := by
  match ds, h with
  | [], _ => rfl
  | [_], _ => cases ‹PyData› <;> rfl
  | [_, _], h => exact absurd rfl h
  | a :: b :: c :: r, _ =>
    unfold winB
    cases a <;> cases b <;> rfl
theorem da_non {b : Bool} {K : PySem.W.Frag} {H : Hp} {v : V} {d : PyData} (h : DaF b K H v d) : decide (v = .non) = isN d := by cases h <;> rfl
theorem verD_int {b : Bool} {K : PySem.W.Frag} {H : Hp} {v : V} {d : PyData} (h : DaF b K H v d) (k : verD d = true) : ∃ i, v = .int i ∧ d = .int i ∧ 0 ≤ i := by
  cases h <;> first | cases k | exact ⟨_, rfl, rfl, of_decide_eq_true k⟩
theorem da_two {b : Bool} {K : PySem.W.Frag} {H : Hp} {xs : List V} {ds : List PyData} (h : DaAllF b K H xs ds) (l : ds.length = 2) : ∃ x1 x2 d1 d2, xs = [x1, x2] ∧ ds = [d1, d2] ∧ DaF b K H x1 d1 ∧ DaF b K H x2 d2 := by
  cases h with
  | nil => cases l
  | cons h1 h => cases h with
    | nil => cases l
    | cons h2 h => cases h with
      | nil => exact ⟨_, _, _, _, rfl, rfl, h1, h2⟩
      | cons _ _ => simp at l
/-- a window as data -/
def hiD : Option Int → PyData
  | none => .none
  | some h => .int h
def hiV : Option Int → V
  | none => .non
  | some h => .int h
def winD (w : Int × Option Int) : PyData := .tuple [.int w.1, hiD w.2]
def okW (w : Int × Option Int) : Prop := 0 ≤ w.1 ∧ ∀ h, w.2 = some h → w.1 ≤ h
theorem winP_D {w : Int × Option Int} (h : okW w) : winP (winD w) = some w := by
  obtain ⟨l, hi⟩ := w
  obtain ⟨h1, h2⟩ := h
  cases hi with
  | none => show (if 0 ≤ l then _ else _) = _; rw [if_pos h1]
  | some k =>
    have := h2 k rfl
    show (if 0 ≤ l ∧ 0 ≤ k ∧ l ≤ k then _ else _) = _
    rw [if_pos ⟨h1, by omega, this⟩]
theorem winP_some {d : PyData} {w : Int × Option Int} (h : winP d = some w) : d = winD w ∧ okW w := by
  unfold winP at h
  split at h
  · split at h
    · cases h; exact ⟨rfl, by assumption, fun k e => nomatch e⟩
    · cases h
  · split at h
    · next c => cases h; exact ⟨rfl, c.1, fun k e => by cases e; exact c.2.2⟩
    · cases h
  · cases h
theorem da_hi {b : Bool} {K : PySem.W.Frag} {H : Hp} : ∀ {o : Option Int} {v : V}, DaF b K H v (hiD o) → v = hiV o
  | none, _, h => by cases h; rfl
  | some _, _, h => by cases h; rfl
/-- a window among the values -/
theorem da_win {b : Bool} {K : PySem.W.Frag} {H : Hp} {w : Int × Option Int} {v : V} (h : DaF b K H v (winD w)) : ∃ a, v = .ref a ∧ SqT K H a [.int w.1, hiV w.2] := by
  cases h with
  | tup hq ha =>
    cases ha with
    | cons h1 r => cases r with
      | cons h2 r =>
        cases r
        cases h1
        have e := da_hi h2
        subst e
        exact ⟨_, rfl, hq⟩
theorem da_hiV {K : PySem.W.Frag} {H : Hp} : ∀ o : Option Int, DaS K H (hiV o) (hiD o)
  | none => DaF.non
  | some h => DaF.int h
theorem da_winT {K : PySem.W.Frag} {H : Hp} {a : Addr} {w : Int × Option Int} (h : SqT K H a [.int w.1, hiV w.2]) : DaS K H (.ref a) (winD w) := DaF.tup h (.cons (DaF.int _) (.cons (da_hiV _) .nil))
def sp_dat (K : PySem.W.Frag) (f : PyData → Bool) : Sp := fun vs H Q _ => ∃ v d, vs = [v] ∧ Da K H v d ∧ ∀ H', Same H H' → Q (.bl (f d)) H'
def sp_req (K : PySem.W.Frag) (f : PyData → Bool) (C : Addr) (n : Str) : Sp := fun vs H Q E => ∃ v d, vs = [v] ∧ Da K H v d ∧ (f d = true → ∀ H', Same H H' → Q .non H') ∧
  (f d = false → ∀ c H', H c = none → Same H H' → H' c = some (.xd [(n, v)]) → E (.ref C) (some c) H')
/-! ### numbers in texts -/
def dg : List Nat := (Str.ofString "0123456789").cps.toList
theorem dg_iff (c : Nat) : c ∈ dg ↔ 48 ≤ c ∧ c ≤ 57 := by
  have e : dg = [48, 49, 50, 51, 52, 53, 54, 55, 56, 57] := by decide +kernel
  rw [e]
  simp only [List.mem_cons, List.not_mem_nil, or_false]
  omega
def digs (x : Str) : Bool := x.cps.toList.all fun c => decide (c ∈ dg)
theorem digs_iff {x : Str} : digs x = true ↔ PySem.NumText.AllDigits x.cps.toList := by
  unfold digs
  rw [List.all_eq_true]
  exact ⟨fun h c hc => (dg_iff c).mp (of_decide_eq_true (h c hc)), fun h c hc => decide_eq_true ((dg_iff c).mpr (h c hc))⟩
def valS (x : Str) : Int := ((PySem.NumText.digitsVal x.cps.toList : Nat) : Int)
/-- decimal without leading zeros -/
def canS (x : Str) : Bool := !(decide (x.cps.toList.head? = some 48) && !decide (x = Str.ofString "0"))
/-- the program's reading: at most sixty digits -/
def pnum (x : Str) : Option Int := if (decide (1 ≤ x.length) && decide (x.length ≤ 60) && digs x) = true then (if canS x = true then some (valS x) else none) else none
theorem intS {x : Str} (h : digs x = true) (h1 : 1 ≤ x.length) (h2 : x.length ≤ 4300) : PySem.intText? x = some (valS x) :=
  PySem.intText_digits (digs_iff.mp h) (fun e => by
    have : x.length = x.cps.toList.length := rfl
    rw [this, e] at h1; simp at h1) h2
def oV : Option Int → V
  | none => .non
  | some i => .int i
theorem str1_eq (c : Nat) : decide (V.str ⟨#[c]⟩ = V.str (Str.ofString "0")) = decide (some c = some 48) := by
  have e : Str.ofString "0" = ⟨#[48]⟩ := by decide +kernel
  rw [e]
  by_cases h : c = 48
  · subst h; rfl
  · rw [decide_eq_false (by simpa using h), decide_eq_false (by simpa using h)]
theorem strV_eq (x y : Str) : decide (V.str x = V.str y) = decide (x = y) := by
  by_cases h : x = y
  · subst h; rw [decide_eq_true rfl, decide_eq_true rfl]
  · rw [decide_eq_false (by simpa using h), decide_eq_false h]
theorem valS_nonneg (x : Str) : 0 ≤ valS x := Int.natCast_nonneg _
/-- the program's reading of a window's text -/
def winAB (b : Str) : Option Int → Option Int → Option (Int × Option Int)
  | some l, some h => if l ≤ h then some (l, some h) else none
  | some l, none => if b = Str.ofString "" then some (l, none) else none
  | none, _ => none
def winS (x : Str) : Option (Int × Option Int) := match Txt.split x (Str.ofString "..") with
  | [a, b] => winAB b (pnum a) (pnum b)
  | _ => none
theorem winS_two {x a b : Str} (h : Txt.split x (Str.ofString "..") = [a, b]) : winS x = winAB b (pnum a) (pnum b) := by unfold winS; rw [h]
theorem winS_not {x : Str} (h : (Txt.split x (Str.ofString "..")).length ≠ 2) : winS x = none := by
  unfold winS
  split
  · next a b e => rw [e] at h; exact absurd rfl h
  · rfl
theorem pnum_nonneg {x : Str} {i : Int} (h : pnum x = some i) : 0 ≤ i := by
  unfold pnum at h
  split at h
  · split at h
    · cases h; exact valS_nonneg x
    · cases h
  · cases h
theorem da_oV {b : Bool} {K : PySem.W.Frag} {H : Hp} : ∀ o : Option Int, DaF b K H (oV o) (hiD o)
  | none => DaF.non
  | some _ => DaF.int _
theorem winS_ok {x : Str} {w : Int × Option Int} (h : winS x = some w) : okW w := by
  unfold winS at h
  split at h
  · next a b _ =>
    cases hl : pnum a with
    | none => rw [hl] at h; cases h
    | some l =>
      cases hk : pnum b with
      | none =>
        rw [hl, hk] at h
        unfold winAB at h
        dsimp only at h
        split at h
        · cases h; exact ⟨pnum_nonneg hl, fun k e => nomatch e⟩
        · cases h
      | some k =>
        rw [hl, hk] at h
        unfold winAB at h
        dsimp only at h
        split at h
        · cases h; exact ⟨pnum_nonneg hl, fun k e => by cases e; assumption⟩
        · cases h
  · cases h
/-- what is written of a window -/
def fmtS (w : Int × Option Int) : Str := match w.2 with
  | none => Str.empty ++ (toString w.1 : String) ++ ".."
  | some h => Str.empty ++ (toString w.1 : String) ++ ".." ++ (toString h : String)
def shortW (w : Int × Option Int) : Prop := w.1.natAbs < 2 ^ 200 ∧ ∀ h, w.2 = some h → h.natAbs < 2 ^ 200
theorem txt_le {i : Int} (h : i.natAbs < 2 ^ 200) : (Str.ofString (toString i)).length ≤ 1921 := int_text_len_1921 (log2_lt_1920 (k := 200) h (by decide) (by decide))
theorem log_of {i : Int} (h : i.natAbs < 2 ^ 200) : i.natAbs.log2 < 1920 := log2_lt_1920 (k := 200) h (by decide) (by decide)
end KX

namespace KX
open PySem PySem.Spec PyProof.Rows L2
/-! ### texts cut at two dots -/
abbrev DD : List Nat := [46, 46]
theorem tl_dd : TL.tl (Str.ofString "..") = DD := by decide +kernel
theorem spl_mem {S : List Nat} : ∀ {L : List Nat} {k : Nat} {acc p : List Nat}, p ∈ TL.spl S k acc L → p.length ≤ acc.length + L.length ∧ ∀ c ∈ p, c ∈ acc ∨ c ∈ L
  | [], k, acc, p, h => by
    rw [TL.spl_nil] at h
    rw [List.mem_singleton.mp h]
    exact ⟨by simp, fun c hc => .inl hc⟩
  | c :: r, k + 1, acc, p, h => by
    have ih := spl_mem (L := r) (k := k) (acc := acc) (p := p) h
    exact ⟨by have := ih.1; simp; omega, fun d hd => (ih.2 d hd).imp id (List.mem_cons_of_mem _)⟩
  | c :: r, 0, acc, p, h => by
    by_cases hp : TL.pre S (c :: r) = true
    · rw [TL.spl_hit hp] at h
      rcases List.mem_cons.mp h with e | h
      · rw [e]; exact ⟨by omega, fun d hd => .inl hd⟩
      · have ih := spl_mem h
        exact ⟨by have := ih.1; simp at this ⊢; omega, fun d hd => .inr ((ih.2 d hd).elim (fun z => by simp at z) (List.mem_cons_of_mem _))⟩
    · have hp' : TL.pre S (c :: r) = false := by simpa using hp
      rw [TL.spl_miss hp'] at h
      have ih := spl_mem h
      refine ⟨by have := ih.1; simp at this ⊢; omega, fun d hd => ?_⟩
      rcases ih.2 d hd with z | z
      · rcases List.mem_append.mp z with z | z
        · exact .inl z
        · exact .inr (by rw [List.mem_singleton.mp z]; exact List.mem_cons_self)
      · exact .inr (List.mem_cons_of_mem _ z)
theorem tl_split (x : Str) : (Txt.split x (Str.ofString "..")).map TL.tl = TL.spl DD 0 [] (TL.tl x) := by
  have h := TL.split_spl x (Str.ofString "..") (by rw [tl_dd]; simp) (TL.kind_ok (by decide +kernel))
  rw [tl_dd] at h
  exact h
theorem splits_ok {x : Str} {n : Nat} (h : okS x n) : ∀ z ∈ Txt.split x (Str.ofString ".."), okS z n := fun z hz => by
  have hm : TL.tl z ∈ TL.spl DD 0 [] (TL.tl x) := by rw [← tl_split]; exact List.mem_map_of_mem hz
  have k := spl_mem hm
  refine ⟨?_, fun c hc => ?_⟩
  · have e1 : z.length = (TL.tl z).length := rfl
    have e2 : x.length = (TL.tl x).length := rfl
    have := k.1; have := h.1
    simp at *; omega
  · rcases k.2 c hc with z | z
    · simp at z
    · exact h.2 c z
/-- the first cut -/
theorem par_spl {L acc : List Nat} : (∃ a r, TL.par DD acc L = some (acc ++ a, r) ∧ L = a ++ DD ++ r ∧ TL.spl DD 0 acc L = (acc ++ a) :: TL.spl DD 0 [] r ∧ ∀ i, i < a.length → TL.pre DD (L.drop i) = false) ∨
    (TL.par DD acc L = none ∧ TL.spl DD 0 acc L = [acc ++ L] ∧ ∀ i, TL.pre DD (L.drop i) = false) := by
  induction L generalizing acc with
  | nil => exact .inr ⟨rfl, by rw [TL.spl_nil, List.append_nil], fun i => by rw [List.drop_nil]; rfl⟩
  | cons c r ih =>
    by_cases hp : TL.pre DD (c :: r) = true
    · refine .inl ⟨[], (c :: r).drop 2, ?_, ?_, ?_, fun i hi => absurd hi (Nat.not_lt_zero _)⟩
      · rw [TL.par_hit hp, List.append_nil]; rfl
      · have e : (c :: r).take 2 = DD := eq_of_beq hp
        rw [List.nil_append, ← e, List.take_append_drop]
      · rw [TL.spl_hit hp, TL.spl_pass, List.append_nil]; rfl
    · have hp' : TL.pre DD (c :: r) = false := by simpa using hp
      rcases ih (acc := acc ++ [c]) with ⟨a, b, h1, h2, h3, h4⟩ | ⟨h1, h2, h3⟩
      · refine .inl ⟨c :: a, b, ?_, ?_, ?_, fun i hi => ?_⟩
        · rw [TL.par_miss hp', h1]; simp
        · rw [h2]; simp
        · rw [TL.spl_miss hp', h3]; simp
        · cases i with
          | zero => exact hp'
          | succ i => exact h4 i (by simpa using hi)
      · refine .inr ⟨?_, ?_, fun i => ?_⟩
        · rw [TL.par_miss hp', h1]
        · rw [TL.spl_miss hp', h2]; simp
        · cases i with
          | zero => exact hp'
          | succ i => exact h3 i
/-- find -/
theorem find_dd (x : Str) : (∃ a r, TL.par DD [] (TL.tl x) = some (a, r) ∧ TL.tl x = a ++ DD ++ r ∧ Txt.find x (Str.ofString "..") = (a.length : Int)) ∨
    (TL.par DD [] (TL.tl x) = none ∧ Txt.find x (Str.ofString "..") = -1) := by
  have hy : TL.tl (Str.ofString "..") ≠ [] := by rw [tl_dd]; simp
  have at_ := fun i => TL.at_iff (x := x) hy i
  rw [tl_dd] at at_
  have hd := PySem.StrLaws.occ_head x (Str.ofString "..") 1 (Nat.le_refl _)
  rcases par_spl (L := TL.tl x) (acc := []) with ⟨a, r, h1, h2, _, h4⟩ | ⟨h1, _, h3⟩
  · have here : TL.pre DD ((TL.tl x).drop a.length) = true := by
      have e : (TL.tl x).drop a.length = DD ++ r := by rw [h2, List.append_assoc]; exact List.drop_left
      rw [e]; exact TL.pre_self _ _
    refine .inl ⟨a, r, h1, h2, ?_⟩
    rcases hd with ⟨_, hn⟩ | ⟨i, s, e, hi, hk⟩
    · exact absurd ((at_ _).mpr here) (hn _)
    · have ei : i = a.length := by
        rcases Nat.lt_trichotomy i a.length with z | z | z
        · have := (at_ _).mp hi
          rw [h4 i z] at this
          cases this
        · exact z
        · exact absurd ((at_ _).mpr here) (hk _ z)
      unfold Txt.find
      rw [e, ei]
  · refine .inr ⟨h1, ?_⟩
    rcases hd with ⟨e, _⟩ | ⟨i, s, e, hi, hk⟩
    · unfold Txt.find; rw [e]
    · have := (at_ _).mp hi
      rw [h3 i] at this
      cases this
/-! ### the law's reading -/
def dgN (c : Nat) : Prop := 48 ≤ c ∧ c ≤ 57
instance (c : Nat) : Decidable (dgN c) := inferInstanceAs (Decidable (_ ∧ _))
abbrev dgs (l : List Nat) : Prop := PySem.NumText.AllDigits l
/-- decimal, without leading zeros -/
def canL (w : List Nat) : Prop := w ≠ [] ∧ dgs w ∧ (w.head? = some 48 → w = [48])
instance (w : List Nat) : Decidable (dgs w) := inferInstanceAs (Decidable (∀ c ∈ w, 48 ≤ c ∧ c ≤ 57))
instance (w : List Nat) : Decidable (canL w) := inferInstanceAs (Decidable (_ ∧ _ ∧ _))
def lnum (w : List Nat) : Option Int := if canL w then some ((PySem.NumText.digitsVal w : Nat) : Int) else none
def lAB (r : List Nat) (l : Option Int) : Option (Int × Option Int) := match l with
  | none => none
  | some l => if r = [] then some (l, none) else match lnum r with
    | none => none
    | some h => if h < l then none else some (l, some h)
def lread (x : Str) : Option (Int × Option Int) := match TL.par DD [] (TL.tl x) with
  | none => none
  | some (a, r) => lAB r (lnum a)
theorem pnum_l (x : Str) : pnum x = if x.length ≤ 60 then lnum (TL.tl x) else none := by
  have e1 : x.length = (TL.tl x).length := rfl
  have e2 : x = Str.ofString "0" ↔ TL.tl x = [48] := by
    have e : TL.tl (Str.ofString "0") = [48] := by decide +kernel
    rw [← e]
    exact ⟨fun z => by rw [z], fun z => TL.ext_tl z⟩
  have ec : canS x = true ↔ (x.cps.toList.head? = some 48 → TL.tl x = [48]) := by
    unfold canS
    simp only [Bool.not_eq_true', Bool.and_eq_false_iff, decide_eq_false_iff_not, Bool.not_eq_false', decide_eq_true_eq]
    rw [← e2]
    exact ⟨fun h k => h.elim (fun z => absurd k z) id, fun h => by
      by_cases k : x.cps.toList.head? = some 48
      · exact .inr (h k)
      · exact .inl k⟩
  have el : 1 ≤ x.length ↔ TL.tl x ≠ [] := by
    rw [e1]
    exact ⟨fun h z => by rw [z] at h; simp at h, fun h => List.length_pos_iff.mpr h⟩
  unfold pnum lnum
  by_cases h1 : x.length ≤ 60
  · rw [if_pos h1]
    by_cases h2 : TL.tl x ≠ [] ∧ dgs (TL.tl x)
    · have hd : digs x = true := digs_iff.mpr h2.2
      rw [if_pos (by simp [hd, h1, el.mpr h2.1])]
      by_cases h3 : canS x = true
      · rw [if_pos h3, if_pos ⟨h2.1, h2.2, ec.mp h3⟩]; rfl
      · rw [if_neg h3, if_neg (fun z => h3 (ec.mpr z.2.2))]
    · rw [if_neg ?_, if_neg (fun z => h2 ⟨z.1, z.2.1⟩)]
      intro z
      simp only [Bool.and_eq_true, decide_eq_true_eq] at z
      exact h2 ⟨el.mp z.1.1, digs_iff.mp z.2⟩
  · rw [if_neg h1, if_neg (by simp [h1])]
/-- where a text is short enough beside its dots, the two readings are one -/
def goodL (L : List Nat) : Prop := ∀ a r, L = a ++ DD ++ r → (dgs a → a.length ≤ 60) ∧ (dgs r → r.length ≤ 60)
theorem lnum_short {w : List Nat} (h : dgs w → w.length ≤ 60) : (if w.length ≤ 60 then lnum w else none) = lnum w := by
  by_cases k : w.length ≤ 60
  · rw [if_pos k]
  · rw [if_neg k]
    unfold lnum
    rw [if_neg fun z => k (h z.2.1)]
theorem read_eq {x : Str} (g : goodL (TL.tl x)) : winS x = lread x := by
  have hs := tl_split x
  rcases par_spl (L := TL.tl x) (acc := []) with ⟨a, r, h1, h2, h3, _⟩ | ⟨h1, h2, _⟩
  · have hr : lread x = lAB r (lnum a) := by unfold lread; rw [h1]; rfl
    obtain ⟨ga, gr⟩ := g a r h2
    rw [h3, List.nil_append] at hs
    rcases par_spl (L := r) (acc := []) with ⟨b, s, k1, k2, k3, _⟩ | ⟨k1, k2, _⟩
    · -- a further cut: neither reads it
      have e1 : winS x = none := winS_not fun z => by
        have l := congrArg List.length hs
        rw [List.length_map, z, k3] at l
        obtain ⟨p, q, e⟩ : ∃ p q, TL.spl DD 0 [] s = p :: q := by
          rcases par_spl (L := s) (acc := []) with ⟨_, _, _, _, z3, _⟩ | ⟨_, z2, _⟩
          · exact ⟨_, _, z3⟩
          · exact ⟨_, _, z2⟩
        rw [e] at l
        simp at l
      have nr : r ≠ [] := fun z => by rw [z] at k2; simp at k2
      have ln : lnum r = none := if_neg fun z => by
        have := z.2.1 46 (by rw [k2]; simp)
        omega
      rw [e1, hr]
      unfold lAB
      cases lnum a with
      | none => rfl
      | some l => dsimp only; rw [if_neg nr, ln]
    · rw [k2, List.nil_append] at hs
      obtain ⟨ys, hys⟩ : ∃ ys, Txt.split x (Str.ofString "..") = ys := ⟨_, rfl⟩
      rw [hys] at hs
      match ys, hs with
      | [y, z], hs =>
        have ey : TL.tl y = a := by injection hs
        have ez : TL.tl z = r := by injection hs with _ q; injection q
        rw [winS_two hys, hr, pnum_l, pnum_l, ey, ez]
        have l1 : y.length = a.length := by rw [← ey]; rfl
        have l2 : z.length = r.length := by rw [← ez]; rfl
        rw [l1, l2, lnum_short ga, lnum_short gr]
        have e0 : z = Str.ofString "" ↔ r = [] := by
          have e : TL.tl (Str.ofString "") = [] := by decide +kernel
          rw [← ez, ← e]
          exact ⟨fun q => by rw [q], fun q => TL.ext_tl q⟩
        unfold winAB lAB
        cases lnum a with
        | none => rfl
        | some l =>
          dsimp only
          by_cases nr : r = []
          · have ln : lnum r = none := by rw [nr]; exact if_neg fun z => z.1 rfl
            rw [ln, if_pos nr]
            dsimp only
            rw [if_pos (e0.mpr nr)]
          · rw [if_neg nr]
            cases lnum r with
            | none => dsimp only; rw [if_neg fun q => nr (e0.mp q)]
            | some k =>
              dsimp only
              by_cases c : l ≤ k
              · rw [if_pos c, if_neg (by omega)]
              · rw [if_neg c, if_pos (by omega)]
  · have e1 : winS x = none := winS_not fun z => by
      have l := congrArg List.length hs
      rw [List.length_map, z, h2] at l
      simp at l
    rw [e1]
    unfold lread
    rw [h1]
end KX

namespace KX
open PySem PySem.Spec PyProof.Rows L2
/-! ### numbers written -/
theorem val_snoc (a : List Nat) (c : Nat) : PySem.NumText.digitsVal (a ++ [c]) = PySem.NumText.digitsVal a * 10 + (c - 48) := by
  unfold PySem.NumText.digitsVal
  rw [List.foldl_append]; rfl
theorem val_pos : ∀ n (a : List Nat), a.length = n → a ≠ [] → dgs a → a.head? ≠ some 48 → 1 ≤ PySem.NumText.digitsVal a := by
  intro n
  induction n with
  | zero => intro a h n; exact absurd (List.length_eq_zero_iff.mp h) n
  | succ n ih =>
    intro a h hn hd hh
    obtain ⟨b, c, rfl⟩ : ∃ b c, a = b ++ [c] := ⟨a.dropLast, a.getLast hn, (List.dropLast_concat_getLast hn).symm⟩
    rw [val_snoc]
    cases b with
    | nil =>
      have hc := hd c (by simp)
      have : c ≠ 48 := fun z => hh (by rw [z]; rfl)
      omega
    | cons d b =>
      have := ih (d :: b) (by simp at h ⊢; omega) (by simp) (fun c hc => hd c (List.mem_append_left _ hc)) (by simpa using hh)
      omega
/-- a number without leading zeros is written as it stands -/
theorem num_back : ∀ n (a : List Nat), a.length = n → canL a → TL.numL (PySem.NumText.digitsVal a) = a := by
  intro n
  induction n with
  | zero => intro a h k; exact absurd (List.length_eq_zero_iff.mp h) k.1
  | succ n ih =>
    intro a h k
    obtain ⟨hn, hd, hz⟩ := k
    obtain ⟨b, c, rfl⟩ : ∃ b c, a = b ++ [c] := ⟨a.dropLast, a.getLast hn, (List.dropLast_concat_getLast hn).symm⟩
    have hc := hd c (by simp)
    cases b with
    | nil =>
      rw [val_snoc]
      show TL.numL (0 * 10 + (c - 48)) = [c]
      rw [TL.numL_lt (by omega)]
      congr 1; omega
    | cons d b =>
      have nh : (d :: b).head? ≠ some 48 := fun z => by
        have := hz (by simpa using z)
        simp at this
      have hb : dgs (d :: b) := fun c hc => hd c (List.mem_append_left _ hc)
      have p := val_pos _ (d :: b) rfl (by simp) hb nh
      have ih' := ih (d :: b) (by simp at h ⊢; omega) ⟨by simp, hb, fun z => absurd z nh⟩
      rw [val_snoc, TL.numL_step (by omega)]
      have e1 : (PySem.NumText.digitsVal (d :: b) * 10 + (c - 48)) / 10 = PySem.NumText.digitsVal (d :: b) := by omega
      have e2 : 48 + (PySem.NumText.digitsVal (d :: b) * 10 + (c - 48)) % 10 = c := by omega
      rw [e1, e2, ih']
theorem canL_num (n : Nat) : canL (TL.numL n) := by
  refine ⟨TL.numL_ne n, TL.numL_digits n, fun h => ?_⟩
  induction n using Nat.strongRecOn with
  | _ n ih =>
    by_cases k : n < 10
    · rw [TL.numL_lt k] at h ⊢
      simpa using h
    · rw [TL.numL_step (by omega)] at h
      have nn := TL.numL_ne (n / 10)
      have hh : (TL.numL (n / 10)).head? = some 48 := by
        cases e : TL.numL (n / 10) with
        | nil => exact absurd e nn
        | cons a b => rw [e] at h; simpa using h
      have := ih (n / 10) (by omega) hh
      have e0 : n / 10 = 0 := by
        have v := TL.numL_val (n / 10)
        rw [this] at v
        exact v.symm
      omega
theorem lnum_num (n : Nat) : lnum (TL.numL n) = some (n : Int) := by
  unfold lnum
  rw [if_pos (canL_num n), TL.numL_val]
/-! ### a window's text -/
def tailL : Option Int → List Nat
  | none => []
  | some h => TL.numL h.toNat
def fmtL (w : Int × Option Int) : List Nat := TL.numL w.1.toNat ++ DD ++ tailL w.2
theorem tl_int {i : Int} (h : 0 ≤ i) : TL.tl (Str.ofString (toString i)) = TL.numL i.toNat := by
  have e : i = ((i.toNat : Nat) : Int) := by omega
  have := TL.tl_num i.toNat
  rw [← e] at this
  exact this
theorem tl_app (x y : Str) : TL.tl (x ++ y) = TL.tl x ++ TL.tl y := TL.tl_append x y
theorem par_fmt {w : Int × Option Int} : TL.par DD [] (fmtL w) = some (TL.numL w.1.toNat, tailL w.2) := by
  have h := TL.par_part1 (s := 46) (S := [46]) (p := TL.numL w.1.toNat) (rest := tailL w.2) (acc := []) (TL.numL_free (by omega))
  rw [List.nil_append] at h
  rw [← h]
  unfold fmtL
  rw [List.append_assoc]
theorem lnum_tail {h : Int} (h0 : 0 ≤ h) : lnum (TL.numL h.toNat) = some h := by
  rw [lnum_num]
  congr 1; omega
theorem read_fmt {w : Int × Option Int} {x : Str} (ok : okW w) (e : TL.tl x = fmtL w) : lread x = some w := by
  unfold lread
  rw [e, par_fmt]
  obtain ⟨l, hi⟩ := w
  obtain ⟨h1, h2⟩ := ok
  dsimp only
  rw [lnum_tail h1]
  cases hi with
  | none => rfl
  | some k =>
    have hk := h2 k rfl
    unfold lAB tailL
    dsimp only at *
    rw [if_neg (TL.numL_ne _), lnum_tail (by omega)]
    dsimp only
    rw [if_neg (by omega)]
theorem lnum_some {a : List Nat} {l : Int} (h : lnum a = some l) : 0 ≤ l ∧ a = TL.numL l.toNat := by
  unfold lnum at h
  split at h
  · next c =>
    cases h
    exact ⟨Int.natCast_nonneg _, by rw [Int.toNat_natCast, num_back _ a rfl c]⟩
  · cases h
/-- what is read is written again -/
theorem fmt_read {w : Int × Option Int} {x : Str} (h : lread x = some w) : TL.tl x = fmtL w := by
  unfold lread at h
  rcases par_spl (L := TL.tl x) (acc := []) with ⟨a, r, h1, h2, _, _⟩ | ⟨h1, _, _⟩
  · rw [h1] at h
    dsimp only at h
    rw [List.nil_append] at h
    unfold lAB at h
    cases hl : lnum a with
    | none => rw [hl] at h; cases h
    | some l =>
      rw [hl] at h
      dsimp only at h
      have ea := (lnum_some hl).2
      by_cases nr : r = []
      · rw [if_pos nr] at h
        cases h
        rw [h2, nr, ea]; rfl
      · rw [if_neg nr] at h
        cases hk : lnum r with
        | none => rw [hk] at h; cases h
        | some k =>
          rw [hk] at h
          dsimp only at h
          split at h
          · cases h
          · cases h
            rw [h2, ea, (lnum_some hk).2]; rfl
  · rw [h1] at h; cases h
/-! ### runs of digits -/
def Run (n : Nat) (L : List Nat) : Prop := ∀ a u b, L = a ++ u ++ b → dgs u → u.length ≤ n
theorem Run.len {n : Nat} {L : List Nat} (h : L.length ≤ n) : Run n L := fun a u b e _ => by rw [e] at h; simp at h; omega
theorem Run.mono {n m : Nat} {L : List Nat} (h : Run n L) (k : n ≤ m) : Run m L := fun a u b e d => Nat.le_trans (h a u b e d) k
theorem Run.mid {n : Nat} {a L b : List Nat} (h : Run n (a ++ L ++ b)) : Run n L := fun p u q e d => h (a ++ p) u (q ++ b) (by rw [e]; simp) d
theorem Run.app {n : Nat} {A B : List Nat} {c : Nat} (ha : Run n A) (hb : Run n B) (nc : ¬ dgN c) : Run n (A ++ c :: B) := by
  intro p u q e d
  rw [List.append_assoc] at e
  rcases List.append_eq_append_iff.mp e with ⟨x, e1, e2⟩ | ⟨x, e1, e2⟩
  · -- p = A ++ x
    cases x with
    | nil =>
      cases u with
      | nil => exact Nat.zero_le _
      | cons v u =>
        rw [List.nil_append] at e2
        injection e2 with z _
        exact absurd (d v List.mem_cons_self) (by rw [← z]; exact nc)
    | cons y x =>
      injection e2 with _ z
      exact hb x u q (by rw [z]; simp) d
  · -- A = p ++ x, x ++ c :: B = u ++ q
    rcases List.append_eq_append_iff.mp e2 with ⟨y, f1, f2⟩ | ⟨y, f1, f2⟩
    · exact ha p u y (by rw [e1, f1]; simp) d
    · cases y with
      | nil =>
        rw [List.append_nil] at f1
        exact ha p u [] (by rw [e1, f1]; simp) d
      | cons v y =>
        injection f2 with z _
        exact absurd (d c (by rw [f1, z]; simp)) nc
theorem Run.rev {n : Nat} {L : List Nat} (h : Run n L) : Run n L.reverse := fun a u b e d => by
  have := h b.reverse u.reverse a.reverse (by rw [← L.reverse_reverse, e]; simp) (fun c hc => d c (List.mem_reverse.mp hc))
  simpa using this
theorem Run.good {L : List Nat} (h : Run 60 L) : goodL L := fun a r e => ⟨fun d => h [] a (DD ++ r) (by rw [e]; simp) d, fun d => h (a ++ DD) r [] (by rw [e]; simp) d⟩
theorem dots_good {L : List Nat} (h : L.count 46 ≤ 1) : goodL L := fun a r e => by
  rw [e] at h
  simp [List.count_append] at h
  omega
/-! ### changed in one place -/
/-- two signs that are no digits, at most one sign between them, beside them at most n signs -/
def Two (n : Nat) (L : List Nat) : Prop := ∃ A c M e B, L = A ++ c :: (M ++ e :: B) ∧ ¬ dgN c ∧ ¬ dgN e ∧ A.length ≤ n ∧ M.length ≤ 1 ∧ B.length ≤ n
def Low (n : Nat) (L : List Nat) : Prop := L.count 46 ≤ 1 ∧ Run n L
theorem Two.run {n : Nat} {L : List Nat} (h : Two n L) (k : 1 ≤ n) : Run n L := by
  obtain ⟨A, c, M, e, B, rfl, hc, he, a, m, b⟩ := h
  exact .app (.len a) (.app (.len (by omega)) (.len b) he) hc
/-- at place i k signs are taken out, X put in -/
def edit (L : List Nat) (i : Nat) (X : List Nat) (k : Nat) : List Nat := L.take i ++ X ++ L.drop (i + k)
theorem edit_left {U V X : List Nat} {i k : Nat} (h : i + k ≤ U.length) : edit (U ++ V) i X k = edit U i X k ++ V := by
  unfold edit
  rw [List.take_append_of_le_length (by omega), List.drop_append_of_le_length h]
  simp
theorem edit_right {U V X : List Nat} {i k : Nat} (h : U.length ≤ i) : edit (U ++ V) i X k = U ++ edit V (i - U.length) X k := by
  unfold edit
  rw [List.take_append, List.drop_append, List.take_of_length_le h, List.drop_of_length_le (l := U) (by omega), List.nil_append]
  have e : i + k - U.length = i - U.length + k := by omega
  rw [e]
  simp
theorem edit_len {L X : List Nat} {i k n : Nat} (h : L.length ≤ n) (hx : X.length ≤ 1) : (edit L i X k).length ≤ n + 1 := by
  unfold edit
  simp only [List.length_append, List.length_take, List.length_drop]
  omega
/-- from two to one: the runs stay short -/
theorem Two.edit {n : Nat} {L X : List Nat} {i k : Nat} (h : Two n L) (hx : X.length ≤ 1) (hk : k ≤ 1) : Run (n + 3) (KX.edit L i X k) := by
  obtain ⟨A, c, M, e, B, rfl, hc, he, a, m, b⟩ := h
  by_cases hi : i ≤ A.length
  · have eq : A ++ c :: (M ++ e :: B) = (A ++ c :: M) ++ e :: B := by simp
    rw [eq, edit_left (by simp; omega)]
    exact .app (.len (Nat.le_trans (edit_len (n := n + 2) (by simp; omega) hx) (by omega))) (.len (by omega)) he
  · have eq : A ++ c :: (M ++ e :: B) = (A ++ [c]) ++ (M ++ e :: B) := by simp
    rw [eq, edit_right (by simp; omega)]
    have eq2 : A ++ [c] ++ KX.edit (M ++ e :: B) (i - (A ++ [c]).length) X k = A ++ c :: KX.edit (M ++ e :: B) (i - (A ++ [c]).length) X k := by simp
    rw [eq2]
    exact .app (.len (by omega)) (.len (Nat.le_trans (edit_len (n := n + 2) (by simp; omega) hx) (by omega))) hc
theorem count_edit {L : List Nat} {i k : Nat} {X : List Nat} (hX : X.count 46 = 0) : (edit L i X k).count 46 ≤ L.count 46 := by
  unfold edit
  have e : L.count 46 = (L.take i).count 46 + (L.drop i).count 46 := by rw [← List.count_append, List.take_append_drop]
  have f : (L.drop (i + k)).count 46 ≤ (L.drop i).count 46 := by
    rw [← List.drop_drop]
    exact (List.drop_sublist _ _).count_le 46
  rw [List.count_append, List.count_append, hX]
  omega
theorem Low.edit {n : Nat} {L X : List Nat} {i k : Nat} (h : Low n L) (hx : X.length ≤ 1) : goodL (KX.edit L i X k) ∨ Run n (KX.edit L i X k) := by
  obtain ⟨h1, h2⟩ := h
  match X, hx with
  | [], _ => exact .inl (dots_good (Nat.le_trans (count_edit rfl) h1))
  | [s], _ =>
    by_cases hs : dgN s
    · exact .inl (dots_good (Nat.le_trans (count_edit (by
        have : s ≠ 46 := fun z => by rw [z] at hs; revert hs; unfold dgN; omega
        simp [this])) h1))
    · right
      have e : KX.edit L i [s] k = L.take i ++ s :: L.drop (i + k) := by unfold KX.edit; simp
      rw [e]
      refine .app ?_ ?_ hs
      · exact Run.mid (a := []) (b := L.drop i) (by rw [List.nil_append, List.take_append_drop]; exact h2)
      · exact Run.mid (a := L.take (i + k)) (b := []) (by rw [List.append_nil, List.take_append_drop]; exact h2)
/-- the text of a window -/
theorem fmt_two {n : Nat} {A B : List Nat} (a : A.length ≤ n) (b : B.length ≤ n) : Two n (A ++ DD ++ B) := ⟨A, 46, [], 46, B, by simp, by decide, by decide, a, by simp, b⟩
theorem fmt_edit {n : Nat} {A B X : List Nat} {i k : Nat} (a : A.length ≤ n) (b : B.length ≤ n) (da : dgs A) (db : dgs B) (hx : X.length ≤ 1) (hk : k ≤ 1) : Two (n + 1) (edit (A ++ DD ++ B) i X k) ∨ Low (n + 1) (edit (A ++ DD ++ B) i X k) := by
  have ca : A.count 46 = 0 := List.count_eq_zero.mpr fun z => by have := da _ z; omega
  have cb : B.count 46 = 0 := List.count_eq_zero.mpr fun z => by have := db _ z; omega
  have e0 : A ++ DD ++ B = A ++ (46 :: 46 :: B) := by simp
  rw [e0]
  by_cases h1 : i + k ≤ A.length
  · left
    rw [edit_left h1]
    exact ⟨edit A i X k, 46, [], 46, B, by simp, by decide, by decide, edit_len a hx, by simp, by omega⟩
  · by_cases h2 : i ≤ A.length
    · -- i = |A|, k = 1: the first dot goes
      have hi : i = A.length := by omega
      have hk1 : k = 1 := by omega
      subst hi hk1
      rw [edit_right (Nat.le_refl _), Nat.sub_self]
      have e : A ++ edit (46 :: 46 :: B) 0 X 1 = A ++ X ++ 46 :: B := by unfold edit; simp
      rw [e]
      match X, hx with
      | [], _ =>
        refine .inr ⟨by simp [List.count_append, ca, cb], ?_⟩
        rw [List.append_nil]
        exact .app (.len (by omega)) (.len (by omega)) (by decide)
      | [s], _ =>
        by_cases hs : dgN s
        · have : s ≠ 46 := fun z => by rw [z] at hs; revert hs; unfold dgN; omega
          exact .inr ⟨by simp [List.count_append, ca, cb, this], .app (.len (by simp; omega)) (.len (by omega)) (by decide)⟩
        · exact .inl ⟨A, s, [], 46, B, by simp, hs, by decide, by omega, by simp, by omega⟩
    · have h3 : A.length < i := by omega
      by_cases h4 : i ≤ A.length + 1
      · have hi : i = A.length + 1 := by omega
        subst hi
        have e1 : A ++ (46 :: 46 :: B) = (A ++ [46]) ++ (46 :: B) := by simp
        rw [e1, edit_right (by simp)]
        have e2 : A.length + 1 - (A ++ [46]).length = 0 := by simp
        rw [e2]
        by_cases hk0 : k = 0
        · subst hk0
          have e : A ++ [46] ++ edit (46 :: B) 0 X 0 = A ++ 46 :: (X ++ 46 :: B) := by unfold edit; simp
          rw [e]
          exact .inl ⟨A, 46, X, 46, B, rfl, by decide, by decide, by omega, hx, by omega⟩
        · have hk1 : k = 1 := by omega
          subst hk1
          have e : A ++ [46] ++ edit (46 :: B) 0 X 1 = A ++ 46 :: (X ++ B) := by unfold edit; simp
          rw [e]
          match X, hx with
          | [], _ => exact .inr ⟨by simp [List.count_append, ca, cb], .app (.len (by omega)) (.len (by simp; omega)) (by decide)⟩
          | [s], _ =>
            by_cases hs : dgN s
            · have : s ≠ 46 := fun z => by rw [z] at hs; revert hs; unfold dgN; omega
              exact .inr ⟨by simp [List.count_append, ca, cb, this], .app (.len (by omega)) (.len (by simp; omega)) (by decide)⟩
            · exact .inl ⟨A, 46, [], s, B, by simp, by decide, hs, by omega, by simp, by omega⟩
      · have e1 : A ++ (46 :: 46 :: B) = (A ++ DD) ++ B := by simp
        rw [e1, edit_right (by simp; omega)]
        exact .inl ⟨A, 46, [], 46, edit B (i - (A ++ DD).length) X k, by simp, by decide, by decide, by omega, by simp, edit_len b hx⟩
/-- what the law's change may make -/
inductive Chg (L : List Nat) : List Nat → Prop
  | ed (i : Nat) (X : List Nat) (k : Nat) : X.length ≤ 1 → k ≤ 1 → Chg L (edit L i X k)
  | rev : Chg L L.reverse
  | turn : Chg L (TL.joinL DD (TL.spl DD 0 [] L).reverse)
theorem joinL_run {n : Nat} : ∀ ps : List (List Nat), (∀ p ∈ ps, Run n p) → Run n (TL.joinL DD ps)
  | [], _ => .len (by simp [TL.joinL])
  | [p], h => h p (by simp)
  | p :: q :: r, h => by
    have ih := joinL_run (q :: r) fun x hx => h x (List.mem_cons_of_mem _ hx)
    show Run n (p ++ 46 :: ([] ++ 46 :: TL.joinL DD (q :: r)))
    exact .app (h p (by simp)) (.app (.len (by simp)) ih (by decide)) (by decide)
theorem spl_run' {n : Nat} : ∀ m (L : List Nat), L.length ≤ m → Run n L → ∀ p ∈ TL.spl DD 0 [] L, Run n p
  | m, L, hm, h, p, hp => by
    rcases par_spl (L := L) (acc := []) with ⟨a, r, _, e, s, _⟩ | ⟨_, s, _⟩
    · rw [s] at hp
      rcases List.mem_cons.mp hp with z | z
      · rw [z, List.nil_append]
        exact Run.mid (a := []) (b := DD ++ r) (by rw [List.nil_append, ← List.append_assoc, ← e]; exact h)
      · match m, hm with
        | 0, hm => rw [e] at hm; simp at hm
        | m + 1, hm => exact spl_run' m r (by rw [e] at hm; simp at hm; omega) (Run.mid (a := a ++ DD) (b := []) (by rw [List.append_nil, ← e]; exact h)) p z
    · rw [s] at hp
      rw [List.mem_singleton.mp hp, List.nil_append]
      exact h
def St0 (L : List Nat) : Prop := ∃ A B, L = A ++ DD ++ B ∧ A.length ≤ 56 ∧ B.length ≤ 56 ∧ dgs A ∧ dgs B
def St1 (L : List Nat) : Prop := Two 57 L ∨ Low 57 L
theorem St0.good {L : List Nat} (h : St0 L) : goodL L := by
  obtain ⟨A, B, rfl, a, b, _, _⟩ := h
  exact ((fmt_two a b).run (by decide)).mono (by decide) |>.good
theorem St1.good {L : List Nat} (h : St1 L) : goodL L := h.elim (fun z => ((z.run (by decide)).mono (by decide)).good) fun z => dots_good z.1
theorem St0.step {L L' : List Nat} (h : St0 L) (c : Chg L L') : St1 L' := by
  obtain ⟨A, B, rfl, a, b, da, db⟩ := h
  cases c with
  | ed i X k hx hk => exact fmt_edit a b da db hx hk
  | rev => exact .inl ⟨B.reverse, 46, [], 46, A.reverse, by simp, by decide, by decide, by simp; omega, by simp, by simp; omega⟩
  | turn =>
    have ha : 46 ∉ A := fun z => by have := da _ z; omega
    have hb : 46 ∉ B := fun z => by have := db _ z; omega
    have e : TL.spl DD 0 [] (A ++ DD ++ B) = [A, B] := by
      have h1 := TL.spl_part1 (s := 46) (S := [46]) (p := A) (rest := B) (acc := []) ha
      have h2 := TL.spl_last1 (s := 46) (S := [46]) (p := B) (acc := []) hb
      rw [h2] at h1
      rw [List.append_assoc]
      exact h1
    rw [e]
    show St1 (B ++ (DD ++ A))
    exact .inl ⟨B, 46, [], 46, A, rfl, by decide, by decide, by omega, by simp, by omega⟩
theorem St1.step {L L' : List Nat} (h : St1 L) (c : Chg L L') : goodL L' := by
  rcases h with h | h
  · cases c with
    | ed i X k hx hk => exact (h.edit hx hk).good
    | rev => exact ((h.run (by decide)).rev.mono (by decide)).good
    | turn =>
      have r := h.run (by decide)
      exact ((joinL_run _ fun p hp => spl_run' _ L (Nat.le_refl _) r p (List.mem_reverse.mp hp)).mono (by decide)).good
  · cases c with
    | ed i X k hx hk => exact (h.edit hx).elim id fun z => (z.mono (by decide)).good
    | rev => exact dots_good (by rw [List.count_reverse]; exact h.1)
    | turn =>
      have e : TL.spl DD 0 [] L = [L] := by
        rcases par_spl (L := L) (acc := []) with ⟨a, r, _, e, _, _⟩ | ⟨_, s, _⟩
        · have := h.1
          rw [e] at this
          simp [List.count_append] at this
          omega
        · rw [s, List.nil_append]
      rw [e]
      exact dots_good h.1
/-! ### slices by places -/
theorem tl_cut_to {z : Str} {i : Int} (h : 0 ≤ i) : TL.tl (cutS z none (some i)) = (TL.tl z).take i.toNat := by
  have e : TL.tl (cutS z none (some i)) = ((TL.tl z).drop (HT.sIx z.length 0 none)).take (HT.sIx z.length z.length (some i) - HT.sIx z.length 0 none) := rfl
  rw [e]
  have l : z.length = (TL.tl z).length := rfl
  unfold HT.sIx
  dsimp only
  rw [List.drop_zero, Nat.sub_zero, if_neg (by omega)]
  by_cases k : i.toNat ≤ z.length
  · congr 1; omega
  · rw [List.take_of_length_le (by omega), List.take_of_length_le (by omega)]
theorem tl_cut_from {z : Str} {i : Int} (h : 0 ≤ i) : TL.tl (cutS z (some i) none) = (TL.tl z).drop i.toNat := by
  have e : TL.tl (cutS z (some i) none) = ((TL.tl z).drop (HT.sIx z.length 0 (some i))).take (HT.sIx z.length z.length none - HT.sIx z.length 0 (some i)) := rfl
  rw [e]
  have l : z.length = (TL.tl z).length := rfl
  unfold HT.sIx
  dsimp only
  rw [if_neg (by omega)]
  by_cases k : i.toNat ≤ z.length
  · rw [List.take_of_length_le (by rw [List.length_drop]; omega)]
    congr 1; omega
  · rw [List.drop_of_length_le (by omega), List.drop_of_length_le (by omega)]; simp
theorem fmtW_tl {w : Int × Option Int} (ok : okW w) : TL.tl (fmtS w) = fmtL w := by
  obtain ⟨l, hi⟩ := w
  obtain ⟨h1, h2⟩ := ok
  have h1 : 0 ≤ l := h1
  unfold fmtS fmtL
  cases hi with
  | none =>
    show TL.tl (Str.empty ++ Str.ofString (toString l) ++ Str.ofString "..") = _
    rw [tl_app, tl_app, tl_dd, tl_int h1]
    show [] ++ _ ++ _ = _
    simp [tailL]
  | some k =>
    have hk : l ≤ k := h2 k rfl
    show TL.tl (Str.empty ++ Str.ofString (toString l) ++ Str.ofString ".." ++ Str.ofString (toString k)) = _
    rw [tl_app, tl_app, tl_app, tl_dd, tl_int h1, tl_int (by omega)]
    show [] ++ _ ++ _ ++ _ = _
    simp [tailL]
theorem joinL_len : ∀ ps : List (List Nat), (TL.joinL DD ps).length = (ps.map (·.length)).sum + 2 * (ps.length - 1)
  | [] => rfl
  | [p] => by simp [TL.joinL]
  | p :: q :: r => by
    have ih := joinL_len (q :: r)
    show (p ++ (DD ++ TL.joinL DD (q :: r))).length = _
    rw [List.length_append, List.length_append, ih]
    simp only [List.map_cons, List.sum_cons, List.length_cons, List.length_nil]
    omega
theorem spl_sum : ∀ m (L : List Nat), L.length ≤ m → ((TL.spl DD 0 [] L).map (·.length)).sum + 2 * ((TL.spl DD 0 [] L).length - 1) = L.length ∧ 1 ≤ (TL.spl DD 0 [] L).length
  | m, L, hm => by
    rcases par_spl (L := L) (acc := []) with ⟨a, r, _, e, s, _⟩ | ⟨_, s, _⟩
    · match m, hm with
      | 0, hm => rw [e] at hm; simp at hm
      | m + 1, hm =>
        have ih := spl_sum m r (by rw [e] at hm; simp at hm; omega)
        have ei : L.length = a.length + 2 + r.length := by rw [e]; simp; omega
        rw [s]
        simp only [List.nil_append, List.map_cons, List.sum_cons, List.length_cons]
        omega
    · rw [s]; simp
theorem turn_len (L : List Nat) : (TL.joinL DD (TL.spl DD 0 [] L).reverse).length = L.length := by
  rw [joinL_len, List.map_reverse, List.length_reverse]
  have e : (((TL.spl DD 0 [] L).map (·.length)).reverse).sum = ((TL.spl DD 0 [] L).map (·.length)).sum := List.sum_reverse _
  rw [e]
  exact (spl_sum _ L (Nat.le_refl _)).1
end KX

namespace KX
open PySem PySem.Spec PyProof.Rows L2

def topS (i : Nat) : Stmt := PySem.Challenge.pw_groupsteps_k14_window_texts.main.body.getD i (.Pass ⟨0, 0, 0, 0⟩)
abbrev s_InvalidWindowx_initx : Stmt := inClass (topS 2) 0
abbrev s_InvalidTextx_initx : Stmt := inClass (topS 3) 0
abbrev s_is_integer : Stmt := topS 7
abbrev s_is_version : Stmt := topS 8
abbrev s_parse_number : Stmt := topS 9
abbrev s_is_window : Stmt := topS 12
abbrev s_require_window : Stmt := topS 13
abbrev s_format_window : Stmt := topS 14
abbrev s_window_in : Stmt := topS 15
abbrev s_parse_window : Stmt := topS 16
abbrev s_l_rng : Stmt := topS 18
abbrev s_l_draw : Stmt := topS 19
abbrev s_l_text : Stmt := topS 21
abbrev s_l_number : Stmt := topS 22
abbrev s_l_read : Stmt := topS 23
abbrev s_l_window : Stmt := topS 24
abbrev s_l_changed : Stmt := topS 25
abbrev s_l_formatted : Stmt := topS 26
abbrev s_l_parsed : Stmt := topS 27
abbrev s_l_string_right : Stmt := topS 28
abbrev s_law : Stmt := topS 29
theorem sc_InvalidWindowx_initx : FnScope ["self", "value"] ["self", "value"] (defScope s_InvalidWindowx_initx) := ⟨rfl, rfl, rfl, by decide +kernel, rfl, by decide +kernel, by decide +kernel⟩
theorem sc_InvalidTextx_initx : FnScope ["self", "line"] ["self", "line"] (defScope s_InvalidTextx_initx) := ⟨rfl, rfl, rfl, by decide +kernel, rfl, by decide +kernel, by decide +kernel⟩
theorem sc_is_integer : FnScope ["value"] ["value"] (defScope s_is_integer) := ⟨rfl, rfl, rfl, by decide +kernel, rfl, by decide +kernel, by decide +kernel⟩
theorem sc_is_version : FnScope ["value"] ["value"] (defScope s_is_version) := ⟨rfl, rfl, rfl, by decide +kernel, rfl, by decide +kernel, by decide +kernel⟩
theorem sc_parse_number : FnScope ["word", "digit"] ["word"] (defScope s_parse_number) := ⟨rfl, rfl, rfl, by decide +kernel, rfl, by decide +kernel, by decide +kernel⟩
theorem sc_is_window : FnScope ["value", "low", "high"] ["value"] (defScope s_is_window) := ⟨rfl, rfl, rfl, by decide +kernel, rfl, by decide +kernel, by decide +kernel⟩
theorem sc_require_window : FnScope ["value"] ["value"] (defScope s_require_window) := ⟨rfl, rfl, rfl, by decide +kernel, rfl, by decide +kernel, by decide +kernel⟩
theorem sc_format_window : FnScope ["window", "low", "high"] ["window"] (defScope s_format_window) := ⟨rfl, rfl, rfl, by decide +kernel, rfl, by decide +kernel, by decide +kernel⟩
theorem sc_window_in : FnScope ["text", "words", "low", "high"] ["text"] (defScope s_window_in) := ⟨rfl, rfl, rfl, by decide +kernel, rfl, by decide +kernel, by decide +kernel⟩
theorem sc_parse_window : FnScope ["text", "window"] ["text"] (defScope s_parse_window) := ⟨rfl, rfl, rfl, by decide +kernel, rfl, by decide +kernel, by decide +kernel⟩
theorem sc_l_rng : FnScope ["_law_script", "_law_k", "_law_cell"] ["_law_script", "_law_k"] (defScope s_l_rng) := ⟨rfl, rfl, rfl, by decide +kernel, rfl, by decide +kernel, by decide +kernel⟩
theorem sc_l_draw : FnScope ["_law_rng_here", "_law_many", "_law_digit"] ["_law_rng_here", "_law_many"] (defScope s_l_draw) := ⟨rfl, rfl, rfl, by decide +kernel, rfl, by decide +kernel, by decide +kernel⟩
theorem sc_l_text : FnScope ["_law_window_here"] ["_law_window_here"] (defScope s_l_text) := ⟨rfl, rfl, rfl, by decide +kernel, rfl, by decide +kernel, by decide +kernel⟩
theorem sc_l_number : FnScope ["_law_word", "_law_sign"] ["_law_word"] (defScope s_l_number) := ⟨rfl, rfl, rfl, by decide +kernel, rfl, by decide +kernel, by decide +kernel⟩
theorem sc_l_read : FnScope ["_law_text_here", "_law_at", "_law_low", "_law_rest", "_law_high"] ["_law_text_here"] (defScope s_l_read) := ⟨rfl, rfl, rfl, by decide +kernel, rfl, by decide +kernel, by decide +kernel⟩
theorem sc_l_window : FnScope ["_law_rng_here", "_law_low"] ["_law_rng_here"] (defScope s_l_window) := ⟨rfl, rfl, rfl, by decide +kernel, rfl, by decide +kernel, by decide +kernel⟩
theorem sc_l_changed : FnScope ["_law_rng_here", "_law_text_here", "_law_at", "_law_sign", "_law_way"] ["_law_rng_here", "_law_text_here"] (defScope s_l_changed) := ⟨rfl, rfl, rfl, by decide +kernel, rfl, by decide +kernel, by decide +kernel⟩
theorem sc_l_formatted : FnScope ["_law_value", "_law_told", "e"] ["_law_value"] (defScope s_l_formatted) := ⟨rfl, rfl, rfl, by decide +kernel, rfl, by decide +kernel, by decide +kernel⟩
theorem sc_l_parsed : FnScope ["_law_value", "_law_told", "e"] ["_law_value"] (defScope s_l_parsed) := ⟨rfl, rfl, rfl, by decide +kernel, rfl, by decide +kernel, by decide +kernel⟩
theorem sc_l_string_right : FnScope ["_law_text_here", "_law_found", "_law_due"] ["_law_text_here"] (defScope s_l_string_right) := ⟨rfl, rfl, rfl, by decide +kernel, rfl, by decide +kernel, by decide +kernel⟩
theorem sc_law : FnScope ["_law_script", "_law_k", "_law_rng_here", "_law_turn", "_law_window_here", "_law_text_here", "_law_change", "_law_value", "_law_odd", "_law_wrong"] ["_law_script"] (defScope s_law) := ⟨rfl, rfl, rfl, by decide +kernel, rfl, by decide +kernel, by decide +kernel⟩
/-- where the defs stand -/
structure Ad where
  f_InvalidWindowx_initx : Addr
  d_InvalidWindowx_initx : FuncData
  f_InvalidTextx_initx : Addr
  d_InvalidTextx_initx : FuncData
  f_is_integer : Addr
  d_is_integer : FuncData
  f_is_version : Addr
  d_is_version : FuncData
  f_parse_number : Addr
  d_parse_number : FuncData
  f_is_window : Addr
  d_is_window : FuncData
  f_require_window : Addr
  d_require_window : FuncData
  f_format_window : Addr
  d_format_window : FuncData
  f_window_in : Addr
  d_window_in : FuncData
  f_parse_window : Addr
  d_parse_window : FuncData
  f_l_rng : Addr
  d_l_rng : FuncData
  f_l_draw : Addr
  d_l_draw : FuncData
  f_l_text : Addr
  d_l_text : FuncData
  f_l_number : Addr
  d_l_number : FuncData
  f_l_read : Addr
  d_l_read : FuncData
  f_l_window : Addr
  d_l_window : FuncData
  f_l_changed : Addr
  d_l_changed : FuncData
  f_l_formatted : Addr
  d_l_formatted : FuncData
  f_l_parsed : Addr
  d_l_parsed : FuncData
  f_l_string_right : Addr
  d_l_string_right : FuncData
  f_law : Addr
  d_law : FuncData
  t_DIGITS : Tok
  t_MAX_DIGITS : Tok
  t_DOTS : Tok
  c_GroupError : Addr
  c_InvalidWindow : Addr
  c_InvalidText : Addr
/-- what the top has left -/
structure Txt (K : PySem.W.Frag) (mg : Str → Option Value) (A : Ad) : Prop where
  F_InvalidWindowx_initx : Fun K "__init__" "InvalidWindow.__init__" s_InvalidWindowx_initx A.f_InvalidWindowx_initx A.d_InvalidWindowx_initx
  b_InvalidWindowx_initx : Binds K A.d_InvalidWindowx_initx ["self", "value"] []
  F_InvalidTextx_initx : Fun K "__init__" "InvalidText.__init__" s_InvalidTextx_initx A.f_InvalidTextx_initx A.d_InvalidTextx_initx
  b_InvalidTextx_initx : Binds K A.d_InvalidTextx_initx ["self", "line"] []
  F_is_integer : Fun K "is_integer" "is_integer" s_is_integer A.f_is_integer A.d_is_integer
  g_is_integer : mg "is_integer" = some (.ref A.f_is_integer)
  b_is_integer : Binds K A.d_is_integer ["value"] []
  F_is_version : Fun K "is_version" "is_version" s_is_version A.f_is_version A.d_is_version
  g_is_version : mg "is_version" = some (.ref A.f_is_version)
  b_is_version : Binds K A.d_is_version ["value"] []
  F_parse_number : Fun K "parse_number" "parse_number" s_parse_number A.f_parse_number A.d_parse_number
  g_parse_number : mg "parse_number" = some (.ref A.f_parse_number)
  b_parse_number : Binds K A.d_parse_number ["word"] []
  F_is_window : Fun K "is_window" "is_window" s_is_window A.f_is_window A.d_is_window
  g_is_window : mg "is_window" = some (.ref A.f_is_window)
  b_is_window : Binds K A.d_is_window ["value"] []
  F_require_window : Fun K "require_window" "require_window" s_require_window A.f_require_window A.d_require_window
  g_require_window : mg "require_window" = some (.ref A.f_require_window)
  b_require_window : Binds K A.d_require_window ["value"] []
  F_format_window : Fun K "format_window" "format_window" s_format_window A.f_format_window A.d_format_window
  g_format_window : mg "format_window" = some (.ref A.f_format_window)
  b_format_window : Binds K A.d_format_window ["window"] []
  F_window_in : Fun K "window_in" "window_in" s_window_in A.f_window_in A.d_window_in
  g_window_in : mg "window_in" = some (.ref A.f_window_in)
  b_window_in : Binds K A.d_window_in ["text"] []
  F_parse_window : Fun K "parse_window" "parse_window" s_parse_window A.f_parse_window A.d_parse_window
  g_parse_window : mg "parse_window" = some (.ref A.f_parse_window)
  b_parse_window : Binds K A.d_parse_window ["text"] []
  F_l_rng : Fun K "_law_rng" "_law_rng" s_l_rng A.f_l_rng A.d_l_rng
  g_l_rng : mg "_law_rng" = some (.ref A.f_l_rng)
  b_l_rng : Binds K A.d_l_rng ["_law_script", "_law_k"] []
  F_l_draw : Fun K "_law_draw" "_law_draw" s_l_draw A.f_l_draw A.d_l_draw
  g_l_draw : mg "_law_draw" = some (.ref A.f_l_draw)
  b_l_draw : Binds K A.d_l_draw ["_law_rng_here", "_law_many"] []
  F_l_text : Fun K "_law_text" "_law_text" s_l_text A.f_l_text A.d_l_text
  g_l_text : mg "_law_text" = some (.ref A.f_l_text)
  b_l_text : Binds K A.d_l_text ["_law_window_here"] []
  F_l_number : Fun K "_law_number" "_law_number" s_l_number A.f_l_number A.d_l_number
  g_l_number : mg "_law_number" = some (.ref A.f_l_number)
  b_l_number : Binds K A.d_l_number ["_law_word"] []
  F_l_read : Fun K "_law_read" "_law_read" s_l_read A.f_l_read A.d_l_read
  g_l_read : mg "_law_read" = some (.ref A.f_l_read)
  b_l_read : Binds K A.d_l_read ["_law_text_here"] []
  F_l_window : Fun K "_law_window" "_law_window" s_l_window A.f_l_window A.d_l_window
  g_l_window : mg "_law_window" = some (.ref A.f_l_window)
  b_l_window : Binds K A.d_l_window ["_law_rng_here"] []
  F_l_changed : Fun K "_law_changed" "_law_changed" s_l_changed A.f_l_changed A.d_l_changed
  g_l_changed : mg "_law_changed" = some (.ref A.f_l_changed)
  b_l_changed : Binds K A.d_l_changed ["_law_rng_here", "_law_text_here"] []
  F_l_formatted : Fun K "_law_formatted" "_law_formatted" s_l_formatted A.f_l_formatted A.d_l_formatted
  g_l_formatted : mg "_law_formatted" = some (.ref A.f_l_formatted)
  b_l_formatted : Binds K A.d_l_formatted ["_law_value"] []
  F_l_parsed : Fun K "_law_parsed" "_law_parsed" s_l_parsed A.f_l_parsed A.d_l_parsed
  g_l_parsed : mg "_law_parsed" = some (.ref A.f_l_parsed)
  b_l_parsed : Binds K A.d_l_parsed ["_law_value"] []
  F_l_string_right : Fun K "_law_string_right" "_law_string_right" s_l_string_right A.f_l_string_right A.d_l_string_right
  g_l_string_right : mg "_law_string_right" = some (.ref A.f_l_string_right)
  b_l_string_right : Binds K A.d_l_string_right ["_law_text_here"] []
  F_law : Fun K "law" "law" s_law A.f_law A.d_law
  g_law : mg "law" = some (.ref A.f_law)
  b_law : Binds K A.d_law ["_law_script"] []
  c_DIGITS : mg "DIGITS" = some (.str "0123456789" A.t_DIGITS)
  c_MAX_DIGITS : mg "MAX_DIGITS" = some (.int (60) A.t_MAX_DIGITS)
  c_DOTS : mg "DOTS" = some (.str ".." A.t_DOTS)
  m_abs : mg "abs" = none
  m_all : mg "all" = none
  m_bool : mg "bool" = none
  m_divmod : mg "divmod" = none
  m_int : mg "int" = none
  m_isinstance : mg "isinstance" = none
  m_len : mg "len" = none
  m_max : mg "max" = none
  m_min : mg "min" = none
  m_range : mg "range" = none
  m_repr : mg "repr" = none
  m_str : mg "str" = none
  m_tuple : mg "tuple" = none
  gX_GroupError : mg "GroupError" = some (.ref A.c_GroupError)
  gX_InvalidWindow : mg "InvalidWindow" = some (.ref A.c_InvalidWindow)
  gX_InvalidText : mg "InvalidText" = some (.ref A.c_InvalidText)
  cg : ClassGet K
  EX_GroupError : ExT K "ValueError.__new__" "ValueError.__init__" (tailOf "ValueError") A.c_GroupError
  EX_InvalidWindow : ExT K "ValueError.__new__" "ValueError.__init__" (tailOf "ValueError") A.c_InvalidWindow
  EX_InvalidText : ExT K "ValueError.__new__" "ValueError.__init__" (tailOf "ValueError") A.c_InvalidText
  IB_GroupError : InitB K "ValueError.__init__" A.c_GroupError
  ki_GroupError_InvalidWindow : PySem.W.kitOne K (.ref A.c_GroupError) (.ref A.c_InvalidWindow) = some false
  ki_GroupError_InvalidText : PySem.W.kitOne K (.ref A.c_GroupError) (.ref A.c_InvalidText) = some false
  su_GroupError_GroupError : PySem.W.subIn K (.ref A.c_GroupError) (.ref A.c_GroupError) = some true
  iC_InvalidWindow : PySem.W.findIn K (.ref A.c_InvalidWindow) "__init__" = some (some (.ref A.f_InvalidWindowx_initx))
  tI_InvalidWindow : PySem.W.typeIn K (.ref A.f_InvalidWindowx_initx) = some (.type "function")
  tk_InvalidWindow_value : PySem.W.takerIn K A.c_InvalidWindow "value" = some none
  nf_InvalidWindow_value : PySem.W.findIn K (.ref A.c_InvalidWindow) "value" = some none
  ki_InvalidWindow_InvalidWindow : PySem.W.kitOne K (.ref A.c_InvalidWindow) (.ref A.c_InvalidWindow) = some true
  ki_InvalidWindow_InvalidText : PySem.W.kitOne K (.ref A.c_InvalidWindow) (.ref A.c_InvalidText) = some false
  su_InvalidWindow_GroupError : PySem.W.subIn K (.ref A.c_InvalidWindow) (.ref A.c_GroupError) = some true
  iC_InvalidText : PySem.W.findIn K (.ref A.c_InvalidText) "__init__" = some (some (.ref A.f_InvalidTextx_initx))
  tI_InvalidText : PySem.W.typeIn K (.ref A.f_InvalidTextx_initx) = some (.type "function")
  tk_InvalidText_line : PySem.W.takerIn K A.c_InvalidText "line" = some none
  nf_InvalidText_line : PySem.W.findIn K (.ref A.c_InvalidText) "line" = some none
  ki_InvalidText_InvalidWindow : PySem.W.kitOne K (.ref A.c_InvalidText) (.ref A.c_InvalidWindow) = some false
  ki_InvalidText_InvalidText : PySem.W.kitOne K (.ref A.c_InvalidText) (.ref A.c_InvalidText) = some true
  su_InvalidText_GroupError : PySem.W.subIn K (.ref A.c_InvalidText) (.ref A.c_GroupError) = some true
theorem i_tt {c : Bool} {A B : Prop} (h : c = true) (x : A) : if c = true then A else B := by rw [if_pos h]; exact x
theorem i_ff {c : Bool} {A B : Prop} (h : c = false) (x : B) : if c = true then A else B := by rw [h, if_neg Bool.false_ne_true]; exact x
theorem atN_lt {xs : List Nat} {d : Int} (h0 : 0 ≤ d) (h1 : d < xs.length) : ∃ v, v ∈ xs ∧ atI xs d = some v := by
  have hd : d.toNat < xs.length := by omega
  refine ⟨xs[d.toNat], List.getElem_mem hd, ?_⟩
  unfold atI ixN
  rw [if_pos h0, if_pos h1]
  simp [hd]
theorem strs_of {n : Nat} : ∀ {ys : List V}, (∀ (i : Nat) y, ys[i]? = some y → ∃ z, y = .str z ∧ okS z n) → ∃ zs : List Str, ys = zs.map V.str ∧ ∀ z ∈ zs, okS z n
  | [], _ => ⟨[], rfl, by simp⟩
  | y :: ys, h => by
    obtain ⟨z, rfl, hz⟩ := h 0 y rfl
    obtain ⟨zs, rfl, hzs⟩ := strs_of (ys := ys) (fun i y e => h (i + 1) y e)
    exact ⟨z :: zs, rfl, List.forall_mem_cons.mpr ⟨hz, hzs⟩⟩
theorem sum_le_of {b : Nat} : ∀ zs : List Str, (∀ z ∈ zs, z.length ≤ b) → (zs.map (·.length)).sum ≤ zs.length * b
  | [], _ => by simp
  | z :: zs, h => by
    have h1 := h z (by simp)
    have ih := sum_le_of zs fun x hx => h x (List.mem_cons_of_mem _ hx)
    simp only [List.map_cons, List.sum_cons, List.length_cons, Nat.add_mul, Nat.one_mul]
    omega

local macro_rules | `(tactic| walk_at "kp") => `(tactic| first
  | with_reducible exact Kp.refl
  | with_reducible exact Kp.thenS (by assumption) (by walk_at "kp")
  | with_reducible exact Kp.thenO (by assumption) (by walk_at "ne") (by walk_at "kp")
  | fail)
local macro_rules | `(tactic| walk_at "hq") => `(tactic| first
  | assumption
  | with_reducible exact Kp.get (by assumption) (by walk_at "kp")
  | fail)
local macro_rules | `(tactic| walk_at "hg") => `(tactic| first
  | walk_at "hq"
  | exact upd_same
  | with_reducible exact (upd_ne (by walk_at "ne")).trans (by walk_at "hg")
  | with_reducible exact Same.get (by assumption) (by walk_at "hg")
  | with_reducible exact Off.get (by assumption) (by walk_at "ne") (by walk_at "hg")
  | fail)
local macro_rules | `(tactic| walk_at "ne") => `(tactic| first
  | assumption
  | (apply Ne.symm; assumption)
  | exact Rok.ne' (by assumption) (by walk_at "rok")
  | exact (Rok.ne' (by assumption) (by walk_at "rok")).symm
  | exact ne_some (by assumption) (by walk_at "hg")
  | exact (ne_some (by assumption) (by walk_at "hg")).symm
  | fail)
local macro_rules | `(tactic| walk_at "rok") => `(tactic| first
  | assumption
  | with_reducible exact Rok.kp (by assumption) (by walk_at "kp")
  | with_reducible exact Rok.same (by assumption) (by walk_at "rok")
  | fail)
local macro_rules | `(tactic| walk_at "sq") => `(tactic| first
  | assumption
  | with_reducible exact SqL.of (by walk_at "hg")
  | with_reducible exact SqT.of (by walk_at "hg")
  | fail)
local macro_rules | `(tactic| walk_at "dac") => `(tactic| first
  | assumption
  | exact DaF.same (by assumption) (by walk_at "dac")
  | fail)
local macro_rules | `(tactic| walk_at "da") => `(tactic| first
  | exact (DaF.non : DaS _ _ _ _)
  | exact (DaF.bl _ : DaS _ _ _ _)
  | exact (DaF.int _ : DaS _ _ _ _)
  | exact (DaF.str _ : DaS _ _ _ _)
  | exact DaF.non
  | exact DaF.bl _
  | exact DaF.int _
  | exact DaF.str _
  | walk_at "dac"
  | with_reducible exact DaF.lst (SqL.of (by walk_at "hq")) (fun _ => by assumption) (by walk_at "das")
  | with_reducible exact Da.lst (SqL.of (by walk_at "hq")) (by walk_at "das")
  | with_reducible exact DaF.tup (SqT.of (by walk_at "hq")) (by walk_at "das")
  | with_reducible exact DaF.dic (Rd.of (by walk_at "hq")) (by walk_at "dak")
  | fail)
local macro_rules | `(tactic| walk_at "das") => `(tactic| first
  | assumption
  | exact DaAllF.nil
  | exact DaAllF.cons (by walk_at "da") (by walk_at "das")
  | fail)
local macro_rules | `(tactic| walk_at "dak") => `(tactic| first
  | assumption
  | exact DaKvF.nil
  | exact DaKvF.cons (by walk_at "da") (by walk_at "dak")
  | fail)
local macro_rules | `(tactic| walk_at "shw") => `(tactic| first
  | assumption
  | exact shw_b2 _ _
  | exact ⟨by decide +kernel, by decide +kernel, by decide +kernel⟩
  | fail)
local macro_rules | `(tactic| walk_at "nod") => `(tactic| first
  | exact .inl rfl
  | exact .inr rfl
  | assumption
  | exact .inr (by assumption)
  | fail)
local macro_rules | `(tactic| walk_at "okd") => `(tactic| first
  | assumption
  | exact okd_of (by decide +kernel)
  | fail)
local macro_rules | `(tactic| walk_at "off") => `(tactic| first
  | assumption
  | exact Off.refl _ _
  | exact Same.refl _
  | with_reducible exact Same.thenS (by assumption) (by walk_at "off")
  | with_reducible exact Off.thenS (by assumption) (by walk_at "off")
  | with_reducible exact Off.thenO (by assumption) (by walk_at "off")
  | with_reducible exact Same.thenF (by assumption) (by assumption) (by walk_at "off") (by walk_at "off")
  | with_reducible exact Off.thenF (by assumption) (by assumption) (by walk_at "off") (by walk_at "off")
  | fail)
local macro_rules | `(tactic| walk_at "side") => `(tactic| first
  | assumption
  | omega
  | decide
  | (simp only [List.length_cons, List.length_nil]; decide)
  | exact ⟨by omega, by omega⟩
  | exact ⟨by omega, PyProof.noPylong_of_log2 (by first | assumption | decide)⟩
  | exact .inl ⟨by omega, by omega⟩
  | exact .inr ⟨by omega, by omega⟩
  | exact ⟨by decide, by decide, by decide⟩
  | exact ⟨by decide, by decide, by omega⟩
  | fail)
local macro_rules | `(tactic| walk_at "st") => `(tactic| first
  | with_reducible refine i_seq ?_
  | with_reducible refine i_bi ?_
  | with_reducible refine i_raise ?_
  | with_reducible refine i_callX ?_
  | with_reducible refine i_tryN ?_
  | with_reducible refine i_isNon ?_
  | with_reducible refine i_isNotNon ?_
  | ((with_reducible refine' i_split ?h ?z ?_); (case h => rfl); (case z => walk_at "side"))
  | with_reducible refine i_find ?_
  | ((with_reducible refine i_strI ?h ?_); (case h => walk_at "side"))
  | with_reducible refine i_fmt ?_
  | ((with_reducible refine i_fmS ?h ?_); (case h => walk_at "side"))
  | ((with_reducible refine i_fmI ?h ?_); (case h => walk_at "side"))
  | with_reducible refine i_jn ?_
  | with_reducible refine i_js0 ?_
  | with_reducible refine i_js1 ?_
  | ((with_reducible refine i_jsR ?h ?_); (case h => walk_at "side"))
  | with_reducible refine i_revS ?_
  | ((with_reducible refine i_exrev ?h ?_); (case h => walk_at "side"))
  | with_reducible refine i_revL ?_
  | ((with_reducible refine' i_exrevL ?h ?_); (case h => walk_at "sq"))
  | with_reducible refine i_par3 ?_
  | with_reducible refine i_ex3 ?_
  | with_reducible refine i_stB ?_
  | with_reducible refine i_mk0 ?_
  | with_reducible refine i_asg ?_
  | with_reducible refine i_c ?_
  | ((with_reducible refine' i_var ?h ?_); (case h => rfl))
  | with_reducible refine i_op ?_
  | with_reducible refine i_cons ?_
  | with_reducible refine i_nil ?_
  | ((with_reducible refine' i_gName ?h ?_); (case h => rfl))
  | with_reducible refine i_rI0 ?_
  | ((with_reducible refine i_rI ?h ?_); (case h => walk_at "side"))
  | with_reducible refine i_test ?_
  | with_reducible refine i_exbl ?_
  | with_reducible refine i_exint ?_
  | with_reducible refine i_exs ?_
  | with_reducible refine i_ret ?_
  | with_reducible refine i_next ?_
  | with_reducible refine i_ifS ?_
  | ((with_reducible refine' i_rIxL ?h ?e ?_); (case h => walk_at "sq"); (case e => first | assumption | rfl))
  | ((with_reducible refine' i_rIxT ?h ?e ?_); (case h => walk_at "sq"); (case e => first | assumption | rfl))
  | ((with_reducible refine' i_rIxS ?h ?e ?_); (case h => walk_at "side"); (case e => first | assumption | rfl))
  | with_reducible refine i_un ?_
  | with_reducible refine i_rU ?_
  | ((with_reducible refine i_rEqSame ?h ?_); (case h => rfl))
  | ((with_reducible refine i_rNeSame ?h ?_); (case h => rfl))
  | ((with_reducible refine i_rEq ?h ?_); (case h => rfl))
  | ((with_reducible refine i_rNe ?h ?_); (case h => rfl))
  | with_reducible refine i_tB ?_
  | with_reducible refine i_and ?_
  | with_reducible refine i_or ?_
  | with_reducible refine i_not ?_
  | with_reducible refine i_andV ?_
  | with_reducible refine i_orV ?_
  | with_reducible refine i_notV ?_
  | with_reducible refine i_if ?_
  | with_reducible refine i_chain ?_
  | with_reducible refine i_drop ?_
  | with_reducible refine i_retN ?_
  | with_reducible refine i_par ?_
  | with_reducible refine i_ex2 ?_
  | ((with_reducible refine' i_aug ?h ?_); (case h => rfl))
  | with_reducible refine i_gNil ?_
  | with_reducible refine i_gCons ?_
  | ((with_reducible refine' i_gTup ?h ?e ?_); (case h => walk_at "sq"); (case e => rfl))
  | with_reducible refine i_gSub ?_
  | ((with_reducible refine' i_rSetL ?h ?e ?_); (case h => walk_at "hg"); (case e => first | assumption | rfl))
  | with_reducible refine i_tup ?_
  | with_reducible refine i_lst ?_
  | with_reducible refine i_lstN ?_
  | with_reducible refine i_newDK ?_
  | with_reducible refine i_disp ?_
  | with_reducible refine i_pairs0 ?_
  | with_reducible refine i_pairs1 ?_
  | with_reducible refine i_call ?_
  | with_reducible refine i_cb ?_
  | with_reducible refine i_bm ?_
  | with_reducible refine i_m1 ?_
  | with_reducible refine i_m0 ?_
  | ((with_reducible refine' i_rAppend ?h ?e ?_); (case h => walk_at "hg"); (case e => walk_at "side"))
  | ((with_reducible refine i_rSlS ?h ?_); (case h => walk_at "side"))
  | ((with_reducible refine' i_rSlL ?h ?_); (case h => walk_at "sq"))
  | with_reducible refine i_sl ?_
  | with_reducible refine i_noPart ?_
  | with_reducible refine i_part ?_
  | with_reducible refine i_rng1 ?_
  | with_reducible refine i_iList ?_
  | with_reducible refine i_iStr ?_
  | ((with_reducible refine i_exrng ?h1 ?h2 ?_); (case h1 => walk_at "side"); (case h2 => walk_at "side"))
  | ((with_reducible refine' i_exl ?h ?_); (case h => walk_at "sq"))
  | with_reducible refine i_for ?_
  | with_reducible refine i_lc ?_
  | with_reducible refine i_yes ?_
  | with_reducible refine i_iteT ?_
  | with_reducible refine i_iteF ?_
  | ((with_reducible refine i_divmod ?h ?_); (case h => walk_at "side"))
  | ((with_reducible refine' i_isi ?h ?e ?_); (case h => walk_at "da"); (case e => decide))
  | ((with_reducible refine i_lenS ?h ?_); (case h => walk_at "side"))
  | ((with_reducible refine' i_lenL ?h ?_); (case h => walk_at "sq"))
  | ((with_reducible refine' i_lenT ?h ?_); (case h => walk_at "sq"))
  | ((with_reducible refine' i_repr ?h ?n ?e ?_); (case h => walk_at "da"); (case n => walk_at "nod"); (case e => walk_at "shw"))
  | ((with_reducible refine' i_rCat ?h ?e ?z ?_); (case h => walk_at "hg"); (case e => walk_at "hg"); (case z => walk_at "side"))
  | ((with_reducible refine i_rCatS ?h ?_); (case h => walk_at "side"))
  | with_reducible refine i_exstr ?_
  | ((with_reducible refine' i_join ?h ?z ?_); (case h => walk_at "sq"); (case z => walk_at "side"))
  | with_reducible refine i_abs ?_
  | with_reducible refine i_max ?_
  | with_reducible refine i_min ?_
  | ((with_reducible refine' i_rAll ?h ?_); (case h => walk_at "sq"))
  | ((with_reducible refine' i_lcEl ?h ?e ?_); (case h => walk_at "hg"); (case e => walk_at "side"))
  | with_reducible refine ⟨_, _, rfl, rfl, ?_⟩
  | with_reducible refine ⟨_, _, rfl, ?_⟩
  | with_reducible refine ⟨_, rfl, ?_⟩
  | with_reducible refine And.intro rfl ?_
  | ((with_reducible refine And.intro ?h ?_); (case h => walk_at "side"))
  | fail)

/-! ### promises -/
def sp_l_draw : Sp := fun vs H Q _ => ∃ r m, vs = [.ref r, .int m] ∧ 0 < m ∧ m.natAbs.log2 < 9000 ∧ Rok H r ∧
  ∀ d H', 0 ≤ d → d < m → Rok H' r → Off r H H' → Q (.int d) H'
def sp_l_rng (K : PySem.W.Frag) : Sp := fun vs H Q _ => ∃ (s : Addr) (ns : List Int) (k : Int), vs = [.ref s, .int k] ∧ SqL K H s (ns.map V.int) ∧ 0 ≤ k ∧ k < 100 ∧ ns.length ≤ 63 ∧
  ∀ r H', H r = none → Rok H' r → Same H H' → Q (.ref r) H'
section
variable {P : Program} {w : World} {K : PySem.W.Frag} {mg : Str → Option Value} {base : Heap} {A : Ad}
theorem ok_l_draw (T : Txt K mg A) : Fg P w K mg base CX0 1 A.f_l_draw A.d_l_draw ["_law_rng_here", "_law_many"] sp_l_draw := by
  refine ok_g T.F_l_draw sc_l_draw (fun vs H Q E h => ?_) (fun cdv Ar outer s H vs Q E hr h => ?_)
  · obtain ⟨r, m, rfl, _⟩ := h; rfl
  · obtain ⟨r, m, rfl, m0, mb, ⟨a, b, hR, b0, b1⟩, q⟩ := h
    refine ⟨_, (pss_cons (ps_if (pt_cmpR op_gt (pe_ix ix_list (pv 0) pe_int (fun _ _ => rfl)) pe_int (nomark _))
(pss_cons (ps_asg (pe_callB call_divmodN (by rfl) T.m_divmod (by decide +kernel) (pa_cons (pe_ix ix_list (pv 0) pe_int (fun _ _ => rfl)) (pa_cons (pv 1) pa_nil))) (pg_tup rfl (pgs_cons (pg_sub (pv 0) pe_int set_list) (pgs_cons (pg_name (i := 2) sc_l_draw.nd rfl (.inl rfl)) pgs_nil))))
(pss_one (ps_ret (pv 2))))
pss_nil)
(pss_cons (ps_asg (pe_op op_mod (pe_op op_add (pe_op op_mul (pe_ix ix_list (pv 0) pe_int (fun _ _ => rfl)) pe_int) pe_int) pe_int) (pg_sub (pv 0) pe_int set_list))
(pss_one (ps_ret (pe_op op_mod (pe_op op_fdiv (pe_op op_mod (pe_op op_mul (pe_ix ix_list (pv 0) pe_int (fun _ _ => rfl)) (pe_ix ix_list (pv 0) pe_int (fun _ _ => rfl))) pe_int) pe_int) (pv 1)))))), ?_⟩
    repeat (walk_at "st")
    refine ite2 (fun e => ?_) (fun e => ?_)
    · repeat (walk_at "st")
      refine i_new fun p1 G1 n1 s1 e1 => ?_
      repeat (walk_at "st")
      refine i_put fun G2 o2 e2 => ?_
      repeat (walk_at "st")
      exact q _ _ (Int.emod_nonneg _ (by omega)) (Int.emod_lt_of_pos _ m0) ⟨_, _, e2, b0, b1⟩ (Off.trans (.of_same s1) o2)
    · repeat (walk_at "st")
      refine i_put fun G1 o1 e1 => ?_
      repeat (walk_at "st")
      exact q _ _ (Int.emod_nonneg _ (by omega)) (Int.emod_lt_of_pos _ m0) ⟨_, _, e1, Int.emod_nonneg _ (by decide), Int.lt_trans (Int.emod_lt_of_pos _ (by decide)) (by decide)⟩ o1
theorem atI_lt {xs : List V} {d : Int} (h0 : 0 ≤ d) (h1 : d < xs.length) : ∃ v, v ∈ xs ∧ atI xs d = some v := by
  have hd : d.toNat < xs.length := by omega
  refine ⟨xs[d.toNat], List.getElem_mem hd, ?_⟩
  unfold atI ixN
  rw [if_pos h0, if_pos h1]
  simp [hd]
theorem ok_l_rng (T : Txt K mg A) : Fg P w K mg base CX0 1 A.f_l_rng A.d_l_rng ["_law_script", "_law_k"] (sp_l_rng K) := by
  refine ok_g T.F_l_rng sc_l_rng (fun vs H Q E h => ?_) (fun cdv Ar outer s H vs Q E hr h => ?_)
  · obtain ⟨_, _, _, rfl, _⟩ := h; rfl
  · obtain ⟨s, ns, k, rfl, hS, k0, k1, hl, q⟩ := h
    refine ⟨_, (pss_cons (ps_set (i := 2) sc_l_rng.nd rfl (.inl rfl) (pe_ifExp (pt_cmpR op_lt (pv 1) (pe_callB call_lenN (by rfl) T.m_len (by decide +kernel) (pa_cons (pv 0) pa_nil)) (nomark _)) (pe_callB call_abs (by rfl) T.m_abs (by decide +kernel) (pa_cons (pe_ix ix_list (pv 0) (pv 1) (fun _ _ => rfl)) pa_nil)) pe_int))
(pss_one (ps_ret (pe_lst (pa_cons (pe_callB (call_max2 rfl) (by rfl) T.m_max (by decide +kernel) (pa_cons pe_int (pa_cons (pe_op op_sub (pv 2) (pe_op op_pow pe_int pe_int)) pa_nil))) (pa_cons (pe_op op_add (pe_op op_mod (pe_op op_pow (pe_op op_add (pe_op op_add (pe_op op_mod (pv 2) pe_int) (pe_op op_mul pe_int (pv 1))) pe_int) pe_int) pe_int) pe_int) pa_nil)))))), ?_⟩
    repeat (walk_at "st")
    refine i_ite (fun e => ?_) (fun e => ?_)
    · have e' : k < ns.length := by simpa using of_decide_eq_true e
      obtain ⟨v, hv, ev⟩ := atI_lt (xs := ns.map V.int) k0 (by simpa using e')
      obtain ⟨z, _, rfl⟩ := List.mem_map.mp hv
      repeat (walk_at "st")
      refine i_new fun p1 G1 n1 s1 e1 => ?_
      repeat (walk_at "st")
      exact q _ _ n1 ⟨_, _, e1, by omega, by omega⟩ s1
    · repeat (walk_at "st")
      refine i_new fun p1 G1 n1 s1 e1 => ?_
      repeat (walk_at "st")
      exact q _ _ n1 ⟨_, _, e1, by omega, by omega⟩ s1

/-! ### errors -/
theorem ok_InvalidWindowx_initx (T : Txt K mg A) : FnOk P w K mg base CX0 1 A.f_InvalidWindowx_initx A.d_InvalidWindowx_initx ["self", "value"] (spI A.c_InvalidWindow ["value"]) := by
  refine T.F_InvalidWindowx_initx.ok sc_InvalidWindowx_initx (fun vs H Q E h => ?_) (fun cdv Ar outer s H vs Q E hr h => ?_)
  · obtain ⟨_, ws, rfl, hl, _⟩ := h; simp [hl]
  · obtain ⟨a, ws, rfl, hl, e, q⟩ := h
    obtain ⟨v, rfl⟩ := List.length_eq_one_iff.mp hl
    refine ⟨_, (pss_cons (ps_expr (pe_binit (by rfl) T.gX_GroupError baseV T.IB_GroupError (pa_cons (pv 0) (pa_cons (pv 1) pa_nil))))
(pss_one (ps_stB (newId := "ValueError.__new__") (initId := "ValueError.__init__") (bmB := tailOf "ValueError") (pv 0) (pv 1)))), ?_⟩
    repeat (walk_at "st")
    refine ⟨a, _, [v], rfl, by show 1 ≤ 1000; decide, T.EX_InvalidWindow.o, e, ?_⟩
    repeat (walk_at "st")
    refine ⟨a, _, rfl, T.EX_InvalidWindow.o, T.tk_InvalidWindow_value, .inl ⟨e, fun dx n ne => ?_⟩⟩
    exact q dx _ n ne upd_same (by rw [upd_ne ne]; exact upd_same) fun b n1 n2 => by rw [upd_ne n1, upd_ne n2]
theorem ok_InvalidTextx_initx (T : Txt K mg A) : FnOk P w K mg base CX0 1 A.f_InvalidTextx_initx A.d_InvalidTextx_initx ["self", "line"] (spI A.c_InvalidText ["line"]) := by
  refine T.F_InvalidTextx_initx.ok sc_InvalidTextx_initx (fun vs H Q E h => ?_) (fun cdv Ar outer s H vs Q E hr h => ?_)
  · obtain ⟨_, ws, rfl, hl, _⟩ := h; simp [hl]
  · obtain ⟨a, ws, rfl, hl, e, q⟩ := h
    obtain ⟨v, rfl⟩ := List.length_eq_one_iff.mp hl
    refine ⟨_, (pss_cons (ps_expr (pe_binit (by rfl) T.gX_GroupError baseV T.IB_GroupError (pa_cons (pv 0) (pa_cons (pv 1) pa_nil))))
(pss_one (ps_stB (newId := "ValueError.__new__") (initId := "ValueError.__init__") (bmB := tailOf "ValueError") (pv 0) (pv 1)))), ?_⟩
    repeat (walk_at "st")
    refine ⟨a, _, [v], rfl, by show 1 ≤ 1000; decide, T.EX_InvalidText.o, e, ?_⟩
    repeat (walk_at "st")
    refine ⟨a, _, rfl, T.EX_InvalidText.o, T.tk_InvalidText_line, .inl ⟨e, fun dx n ne => ?_⟩⟩
    exact q dx _ n ne upd_same (by rw [upd_ne ne]; exact upd_same) fun b n1 n2 => by rw [upd_ne n1, upd_ne n2]
end
end KX

namespace KX
open PySem PySem.Spec PyProof.Rows L2

local macro_rules | `(tactic| walk_at "kp") => `(tactic| first
  | with_reducible exact Kp.refl
  | with_reducible exact Kp.thenS (by assumption) (by walk_at "kp")
  | with_reducible exact Kp.thenO (by assumption) (by walk_at "ne") (by walk_at "kp")
  | fail)
local macro_rules | `(tactic| walk_at "hq") => `(tactic| first
  | assumption
  | with_reducible exact Kp.get (by assumption) (by walk_at "kp")
  | fail)
local macro_rules | `(tactic| walk_at "hg") => `(tactic| first
  | walk_at "hq"
  | exact upd_same
  | with_reducible exact (upd_ne (by walk_at "ne")).trans (by walk_at "hg")
  | with_reducible exact Same.get (by assumption) (by walk_at "hg")
  | with_reducible exact Off.get (by assumption) (by walk_at "ne") (by walk_at "hg")
  | fail)
local macro_rules | `(tactic| walk_at "ne") => `(tactic| first
  | assumption
  | (apply Ne.symm; assumption)
  | exact Rok.ne' (by assumption) (by walk_at "rok")
  | exact (Rok.ne' (by assumption) (by walk_at "rok")).symm
  | exact ne_some (by assumption) (by walk_at "hg")
  | exact (ne_some (by assumption) (by walk_at "hg")).symm
  | fail)
local macro_rules | `(tactic| walk_at "rok") => `(tactic| first
  | assumption
  | with_reducible exact Rok.kp (by assumption) (by walk_at "kp")
  | with_reducible exact Rok.same (by assumption) (by walk_at "rok")
  | fail)
local macro_rules | `(tactic| walk_at "sq") => `(tactic| first
  | assumption
  | with_reducible exact SqL.of (by walk_at "hg")
  | with_reducible exact SqT.of (by walk_at "hg")
  | fail)
local macro_rules | `(tactic| walk_at "dac") => `(tactic| first
  | assumption
  | exact DaF.same (by assumption) (by walk_at "dac")
  | fail)
local macro_rules | `(tactic| walk_at "da") => `(tactic| first
  | exact (DaF.non : DaS _ _ _ _)
  | exact (DaF.bl _ : DaS _ _ _ _)
  | exact (DaF.int _ : DaS _ _ _ _)
  | exact (DaF.str _ : DaS _ _ _ _)
  | exact DaF.non
  | exact DaF.bl _
  | exact DaF.int _
  | exact DaF.str _
  | walk_at "dac"
  | with_reducible exact DaF.lst (SqL.of (by walk_at "hq")) (fun _ => by assumption) (by walk_at "das")
  | with_reducible exact Da.lst (SqL.of (by walk_at "hq")) (by walk_at "das")
  | with_reducible exact DaF.tup (SqT.of (by walk_at "hq")) (by walk_at "das")
  | with_reducible exact DaF.dic (Rd.of (by walk_at "hq")) (by walk_at "dak")
  | fail)
local macro_rules | `(tactic| walk_at "das") => `(tactic| first
  | assumption
  | exact DaAllF.nil
  | exact DaAllF.cons (by walk_at "da") (by walk_at "das")
  | fail)
local macro_rules | `(tactic| walk_at "dak") => `(tactic| first
  | assumption
  | exact DaKvF.nil
  | exact DaKvF.cons (by walk_at "da") (by walk_at "dak")
  | fail)
local macro_rules | `(tactic| walk_at "shw") => `(tactic| first
  | assumption
  | exact shw_b2 _ _
  | exact ⟨by decide +kernel, by decide +kernel, by decide +kernel⟩
  | fail)
local macro_rules | `(tactic| walk_at "nod") => `(tactic| first
  | exact .inl rfl
  | exact .inr rfl
  | assumption
  | exact .inr (by assumption)
  | fail)
local macro_rules | `(tactic| walk_at "okd") => `(tactic| first
  | assumption
  | exact okd_of (by decide +kernel)
  | fail)
local macro_rules | `(tactic| walk_at "off") => `(tactic| first
  | assumption
  | exact Off.refl _ _
  | exact Same.refl _
  | with_reducible exact Same.thenS (by assumption) (by walk_at "off")
  | with_reducible exact Off.thenS (by assumption) (by walk_at "off")
  | with_reducible exact Off.thenO (by assumption) (by walk_at "off")
  | with_reducible exact Same.thenF (by assumption) (by assumption) (by walk_at "off") (by walk_at "off")
  | with_reducible exact Off.thenF (by assumption) (by assumption) (by walk_at "off") (by walk_at "off")
  | fail)
local macro_rules | `(tactic| walk_at "side") => `(tactic| first
  | assumption
  | omega
  | decide
  | (simp only [List.length_cons, List.length_nil]; decide)
  | exact ⟨by omega, by omega⟩
  | exact ⟨by omega, PyProof.noPylong_of_log2 (by first | assumption | decide)⟩
  | exact .inl ⟨by omega, by omega⟩
  | exact .inr ⟨by omega, by omega⟩
  | exact ⟨by decide, by decide, by decide⟩
  | exact ⟨by decide, by decide, by omega⟩
  | fail)
local macro_rules | `(tactic| walk_at "st") => `(tactic| first
  | with_reducible refine i_seq ?_
  | with_reducible refine i_bi ?_
  | with_reducible refine i_raise ?_
  | with_reducible refine i_callX ?_
  | with_reducible refine i_tryN ?_
  | with_reducible refine i_isNon ?_
  | with_reducible refine i_isNotNon ?_
  | ((with_reducible refine' i_split ?h ?z ?_); (case h => rfl); (case z => walk_at "side"))
  | with_reducible refine i_find ?_
  | ((with_reducible refine i_strI ?h ?_); (case h => walk_at "side"))
  | with_reducible refine i_fmt ?_
  | ((with_reducible refine i_fmS ?h ?_); (case h => walk_at "side"))
  | ((with_reducible refine i_fmI ?h ?_); (case h => walk_at "side"))
  | with_reducible refine i_jn ?_
  | with_reducible refine i_js0 ?_
  | with_reducible refine i_js1 ?_
  | ((with_reducible refine i_jsR ?h ?_); (case h => walk_at "side"))
  | with_reducible refine i_revS ?_
  | ((with_reducible refine i_exrev ?h ?_); (case h => walk_at "side"))
  | with_reducible refine i_revL ?_
  | ((with_reducible refine' i_exrevL ?h ?_); (case h => walk_at "sq"))
  | with_reducible refine i_par3 ?_
  | with_reducible refine i_ex3 ?_
  | with_reducible refine i_stB ?_
  | with_reducible refine i_mk0 ?_
  | with_reducible refine i_asg ?_
  | with_reducible refine i_c ?_
  | ((with_reducible refine' i_var ?h ?_); (case h => rfl))
  | with_reducible refine i_op ?_
  | with_reducible refine i_cons ?_
  | with_reducible refine i_nil ?_
  | ((with_reducible refine' i_gName ?h ?_); (case h => rfl))
  | with_reducible refine i_rI0 ?_
  | ((with_reducible refine i_rI ?h ?_); (case h => walk_at "side"))
  | with_reducible refine i_test ?_
  | with_reducible refine i_exbl ?_
  | with_reducible refine i_exint ?_
  | with_reducible refine i_exs ?_
  | with_reducible refine i_ret ?_
  | with_reducible refine i_next ?_
  | with_reducible refine i_ifS ?_
  | ((with_reducible refine' i_rIxL ?h ?e ?_); (case h => walk_at "sq"); (case e => first | assumption | rfl))
  | ((with_reducible refine' i_rIxT ?h ?e ?_); (case h => walk_at "sq"); (case e => first | assumption | rfl))
  | ((with_reducible refine' i_rIxS ?h ?e ?_); (case h => walk_at "side"); (case e => first | assumption | rfl))
  | with_reducible refine i_un ?_
  | with_reducible refine i_rU ?_
  | ((with_reducible refine i_rEqSame ?h ?_); (case h => rfl))
  | ((with_reducible refine i_rNeSame ?h ?_); (case h => rfl))
  | ((with_reducible refine i_rEq ?h ?_); (case h => rfl))
  | ((with_reducible refine i_rNe ?h ?_); (case h => rfl))
  | with_reducible refine i_tB ?_
  | with_reducible refine i_and ?_
  | with_reducible refine i_or ?_
  | with_reducible refine i_not ?_
  | with_reducible refine i_andV ?_
  | with_reducible refine i_orV ?_
  | with_reducible refine i_notV ?_
  | with_reducible refine i_if ?_
  | with_reducible refine i_chain ?_
  | with_reducible refine i_drop ?_
  | with_reducible refine i_retN ?_
  | with_reducible refine i_par ?_
  | with_reducible refine i_ex2 ?_
  | ((with_reducible refine' i_aug ?h ?_); (case h => rfl))
  | with_reducible refine i_gNil ?_
  | with_reducible refine i_gCons ?_
  | ((with_reducible refine' i_gTup ?h ?e ?_); (case h => walk_at "sq"); (case e => rfl))
  | with_reducible refine i_gSub ?_
  | ((with_reducible refine' i_rSetL ?h ?e ?_); (case h => walk_at "hg"); (case e => first | assumption | rfl))
  | with_reducible refine i_tup ?_
  | with_reducible refine i_lst ?_
  | with_reducible refine i_lstN ?_
  | with_reducible refine i_newDK ?_
  | with_reducible refine i_disp ?_
  | with_reducible refine i_pairs0 ?_
  | with_reducible refine i_pairs1 ?_
  | with_reducible refine i_call ?_
  | with_reducible refine i_cb ?_
  | with_reducible refine i_bm ?_
  | with_reducible refine i_m1 ?_
  | with_reducible refine i_m0 ?_
  | ((with_reducible refine' i_rAppend ?h ?e ?_); (case h => walk_at "hg"); (case e => walk_at "side"))
  | ((with_reducible refine i_rSlS ?h ?_); (case h => walk_at "side"))
  | ((with_reducible refine' i_rSlL ?h ?_); (case h => walk_at "sq"))
  | with_reducible refine i_sl ?_
  | with_reducible refine i_noPart ?_
  | with_reducible refine i_part ?_
  | with_reducible refine i_rng1 ?_
  | with_reducible refine i_iList ?_
  | with_reducible refine i_iStr ?_
  | ((with_reducible refine i_exrng ?h1 ?h2 ?_); (case h1 => walk_at "side"); (case h2 => walk_at "side"))
  | ((with_reducible refine' i_exl ?h ?_); (case h => walk_at "sq"))
  | with_reducible refine i_for ?_
  | with_reducible refine i_lc ?_
  | with_reducible refine i_yes ?_
  | with_reducible refine i_iteT ?_
  | with_reducible refine i_iteF ?_
  | ((with_reducible refine i_divmod ?h ?_); (case h => walk_at "side"))
  | ((with_reducible refine' i_isi ?h ?e ?_); (case h => walk_at "da"); (case e => decide))
  | ((with_reducible refine i_lenS ?h ?_); (case h => walk_at "side"))
  | ((with_reducible refine' i_lenL ?h ?_); (case h => walk_at "sq"))
  | ((with_reducible refine' i_lenT ?h ?_); (case h => walk_at "sq"))
  | ((with_reducible refine' i_repr ?h ?n ?e ?_); (case h => walk_at "da"); (case n => walk_at "nod"); (case e => walk_at "shw"))
  | ((with_reducible refine' i_rCat ?h ?e ?z ?_); (case h => walk_at "hg"); (case e => walk_at "hg"); (case z => walk_at "side"))
  | ((with_reducible refine i_rCatS ?h ?_); (case h => walk_at "side"))
  | with_reducible refine i_exstr ?_
  | ((with_reducible refine' i_join ?h ?z ?_); (case h => walk_at "sq"); (case z => walk_at "side"))
  | with_reducible refine i_abs ?_
  | with_reducible refine i_max ?_
  | with_reducible refine i_min ?_
  | ((with_reducible refine' i_rAll ?h ?_); (case h => walk_at "sq"))
  | ((with_reducible refine' i_lcEl ?h ?e ?_); (case h => walk_at "hg"); (case e => walk_at "side"))
  | with_reducible refine ⟨_, _, rfl, rfl, ?_⟩
  | with_reducible refine ⟨_, _, rfl, ?_⟩
  | with_reducible refine ⟨_, rfl, ?_⟩
  | with_reducible refine And.intro rfl ?_
  | ((with_reducible refine And.intro ?h ?_); (case h => walk_at "side"))
  | fail)

section
variable {P : Program} {w : World} {K : PySem.W.Frag} {mg : Str → Option Value} {base : Heap} {A : Ad}
theorem ok_is_integer (T : Txt K mg A) : FnOk P w K mg base CX0 1 A.f_is_integer A.d_is_integer ["value"] (sp_dat K fun d => isi d "int" && !isi d "bool") := by
  refine T.F_is_integer.ok sc_is_integer (fun vs H Q E h => ?_) (fun cdv Ar outer s H vs Q E hr h => ?_)
  · obtain ⟨_, _, rfl, _⟩ := h; rfl
  · obtain ⟨v, d, rfl, hd, q⟩ := h
    refine ⟨_, (pss_one (ps_ret (pe_and (pe_callB call_isiD (by rfl) T.m_isinstance (by decide +kernel) (pa_cons (pv 0) (pa_cons (pe_bltn (v := .ty "int") rfl T.m_int (by decide +kernel) rfl) pa_nil))) (pe_one (pe_not (pe_callB call_isiD (by rfl) T.m_isinstance (by decide +kernel) (pa_cons (pv 0) (pa_cons (pe_bltn (v := .ty "bool") rfl T.m_bool (by decide +kernel) rfl) pa_nil)))))))), ?_⟩
    have q' := q _ (Same.refl H)
    dsimp only at q'
    repeat (walk_at "st")
    refine i_ite (fun e => ?_) (fun e => ?_)
    · repeat (walk_at "st")
      rw [e] at q'; exact q'
    · rw [e] at q'; exact q'
theorem ok_is_version (T : Txt K mg A) (G_is_integer : FnOk P w K mg base CX0 1 A.f_is_integer A.d_is_integer ["value"] (sp_dat K fun d => isi d "int" && !isi d "bool")) : FnOk P w K mg base CX0 2 A.f_is_version A.d_is_version ["value"] (sp_dat K verD) := by
  refine T.F_is_version.ok sc_is_version (fun vs H Q E h => ?_) (fun cdv Ar outer s H vs Q E hr h => ?_)
  · obtain ⟨_, _, rfl, _⟩ := h; rfl
  · obtain ⟨v, d, rfl, hd, q⟩ := h
    refine ⟨_, (pss_one (ps_ret (pe_and (L2.pe_call G_is_integer (hr.mono (by decide)) (by rfl) T.g_is_integer T.F_is_integer.kp T.b_is_integer .nil pass0 (pa_cons (pv 0) pa_nil)) (pe_one (pe_cmpR op_ge (pv 0) pe_int (nomark _)))))), ?_⟩
    repeat (walk_at "st")
    refine ⟨_, _, rfl, hd, fun G1 s1 => ?_⟩
    repeat (walk_at "st")
    have q' := q _ s1
    cases hd with
    | int i => 
      refine i_iteT ?_
      repeat (walk_at "st")
      exact q'
    | _ => exact q'
theorem ok_is_window (T : Txt K mg A) (G_is_version : FnOk P w K mg base CX0 2 A.f_is_version A.d_is_version ["value"] (sp_dat K verD)) : FnOk P w K mg base CX0 3 A.f_is_window A.d_is_window ["value"] (sp_dat K winB) := by
  refine T.F_is_window.ok sc_is_window (fun vs H Q E h => ?_) (fun cdv Ar outer s H vs Q E hr h => ?_)
  · obtain ⟨_, _, rfl, _⟩ := h; rfl
  · obtain ⟨v, d, rfl, hd, q⟩ := h
    refine ⟨_, (pss_cons (ps_if (PW.pt (pw_or (pt_not (pt_val (pe_callB call_isiD (by rfl) T.m_isinstance (by decide +kernel) (pa_cons (pv 0) (pa_cons (pe_bltn (v := .ty "tuple") rfl T.m_tuple (by decide +kernel) rfl) pa_nil))))) (pw_or (pt_cmpR op_ne (pe_callB call_lenN (by rfl) T.m_len (by decide +kernel) (pa_cons (pv 0) pa_nil)) pe_int (nomark _)) (pw_or1 (pt_not (pt_val (L2.pe_call G_is_version (hr.mono (by decide)) (by rfl) T.g_is_version T.F_is_version.kp T.b_is_version .nil pass0 (pa_cons (pe_ix ix_tup (pv 0) pe_int (fun _ _ => rfl)) pa_nil))))))))
(pss_one (ps_ret pe_bl))
pss_nil)
(pss_cons (ps_asg (pv 0) (pg_tup rfl (pgs_cons (pg_name (i := 1) sc_is_window.nd rfl (.inl rfl)) (pgs_cons (pg_name (i := 2) sc_is_window.nd rfl (.inl rfl)) pgs_nil))))
(pss_one (ps_ret (pe_or (pe_cmpR op_isNN (pv 2) pe_non (nomark _)) (pe_one (pe_and (L2.pe_call G_is_version (hr.mono (by decide)) (by rfl) T.g_is_version T.F_is_version.kp T.b_is_version .nil pass0 (pa_cons (pv 2) pa_nil)) (pe_one (pe_cmpR op_ge (pv 2) (pv 1) (nomark _)))))))))), ?_⟩
    repeat (walk_at "st")
    cases hd with
    | tup hq ha =>
      rename_i xs ds
      have len := ha.len
      refine i_ff (by rfl) ?_
      repeat (walk_at "st")
      by_cases hl : ds.length = 2
      · refine i_ff (by rw [len, hl]; rfl) ?_
        repeat (walk_at "st")
        obtain ⟨x1, x2, d1, d2, rfl, rfl, h1, h2⟩ := da_two ha hl
        repeat (walk_at "st")
        refine ⟨_, _, rfl, h1, fun G1 s1 => ?_⟩
        have hq' := same_seqT s1 hq
        repeat (walk_at "st")
        refine i_ite (fun e => ?_) (fun e => ?_)
        · repeat (walk_at "st")
          have e' : verD d1 = false := by simpa using e
          have q' := q _ s1
          rw [winB_two, e'] at q'
          exact q'
        · have e' : verD d1 = true := by simpa using e
          obtain ⟨i, rfl, rfl, i0⟩ := verD_int h1 e'
          repeat (walk_at "st")
          refine i_ite (fun c => ?_) (fun c => ?_)
          · repeat (walk_at "st")
            have q' := q _ s1
            rw [winB_two, e', ← da_non h2, c] at q'
            exact q'
          · repeat (walk_at "st")
            refine ⟨_, _, rfl, h2.same s1, fun G2 s2 => ?_⟩
            repeat (walk_at "st")
            refine i_ite (fun c2 => ?_) (fun c2 => ?_)
            · obtain ⟨k, rfl, rfl, k0⟩ := verD_int h2 c2
              repeat (walk_at "st")
              have q' := q _ (s1.trans s2)
              rw [winB_two, e', c2] at q'
              exact q'
            · have q' := q _ (s1.trans s2)
              rw [winB_two, e', ← da_non h2, c, c2] at q'
              exact q'
      · refine i_tt (by rw [len]; simp; omega) ?_
        repeat (walk_at "st")
        have q' := q _ (Same.refl H)
        rw [winB_len hl] at q'
        exact q'
    | _ =>
      refine i_tt (by rfl) ?_
      repeat (walk_at "st")
      exact q _ (Same.refl _)
theorem ok_require_window (T : Txt K mg A) (G_is_window : FnOk P w K mg base CX0 3 A.f_is_window A.d_is_window ["value"] (sp_dat K winB)) (G_InvalidWindowx_initx : FnOk P w K mg base CX0 1 A.f_InvalidWindowx_initx A.d_InvalidWindowx_initx ["self", "value"] (spI A.c_InvalidWindow ["value"])) :
    FnOk P w K mg base (L2.CX P w) 4 A.f_require_window A.d_require_window ["value"] (sp_req K winB A.c_InvalidWindow "value") := by
  refine T.F_require_window.okX sc_require_window (fun vs H Q E h => ?_) (fun cdv Ar outer s H vs Q E hr h => ?_)
  · obtain ⟨_, _, rfl, _⟩ := h; rfl
  · obtain ⟨v, d, rfl, hd, qy, qn⟩ := h
    refine ⟨_, (pss_one (ps_if (pt_not (pt_val (L2.pe_call G_is_window (hr.mono (by decide)) (by rfl) T.g_is_window T.F_is_window.kp T.b_is_window .nil pass0 (pa_cons (pv 0) pa_nil))))
(pss_one (ps_raiseN rfl (takes_of rfl rfl rfl rfl) (pmk_B T.EX_InvalidWindow.o T.iC_InvalidWindow T.tI_InvalidWindow G_InvalidWindowx_initx (hr.mono (by decide)) T.b_InvalidWindowx_initx pass0 (by rfl) T.gX_InvalidWindow (pa_cons (pv 0) pa_nil))))
pss_nil)), ?_⟩
    repeat (walk_at "st")
    refine ⟨_, _, rfl, hd, fun G1 s1 => ?_⟩
    repeat (walk_at "st")
    refine i_ite (fun e => ?_) (fun e => ?_)
    · have e' : winB d = false := by simpa using e
      repeat (walk_at "st")
      refine i_mkR rfl (by decide) fun c H2 hc s2 ec => ?_
      exact qn e' c H2 (none_of s1 hc) (s1.trans s2) ec
    · have e' : winB d = true := by simpa using e
      repeat (walk_at "st")
      exact qy e' _ s1
def sp_fmt (K : PySem.W.Frag) (C : Addr) : Sp := fun vs H Q E => ∃ v d, vs = [v] ∧ Da K H v d ∧ (∀ w, winP d = some w → shortW w ∧ ∀ H', Same H H' → Q (.str (fmtS w)) H') ∧
  (winB d = false → ∀ c H', H c = none → Same H H' → H' c = some (.xd [("value", v)]) → E (.ref C) (some c) H')
theorem ok_format_window (T : Txt K mg A) (G_require_window : FnOk P w K mg base (L2.CX P w) 4 A.f_require_window A.d_require_window ["value"] (sp_req K winB A.c_InvalidWindow "value")) : FnOk P w K mg base (L2.CX P w) 5 A.f_format_window A.d_format_window ["window"] (sp_fmt K A.c_InvalidWindow) := by
  refine T.F_format_window.okX sc_format_window (fun vs H Q E h => ?_) (fun cdv Ar outer s H vs Q E hr h => ?_)
  · obtain ⟨_, _, rfl, _⟩ := h; rfl
  · obtain ⟨v, d, rfl, hd, qy, qn⟩ := h
    refine ⟨_, (pss_cons (ps_expr (L2.pe_call G_require_window (hr.mono (by decide)) (by rfl) T.g_require_window T.F_require_window.kp T.b_require_window .nil (passes_call (takes_of rfl rfl rfl rfl) fun _ _ _ _ h => h) (pa_cons (pv 0) pa_nil)))
(pss_cons (ps_asg (pv 0) (pg_tup rfl (pgs_cons (pg_name (i := 1) sc_format_window.nd rfl (.inl rfl)) (pgs_cons (pg_name (i := 2) sc_format_window.nd rfl (.inl rfl)) pgs_nil))))
(pss_one (ps_ret (pe_ifExp (pt_cmpR op_isNN (pv 2) pe_non (nomark _)) (pe_joinedN (PJ.cons (pe_fmt (pv 1)) (PJ.cons (pe_fmt (pe_glob (v := .str "..") rfl T.c_DOTS ⟨_, rfl⟩)) PJ.nil))) (pe_joinedN (PJ.cons (pe_fmt (pv 1)) (PJ.cons (pe_fmt (pe_glob (v := .str "..") rfl T.c_DOTS ⟨_, rfl⟩)) (PJ.cons (pe_fmt (pv 2)) PJ.nil))))))))), ?_⟩
    repeat (walk_at "st")
    refine ⟨_, _, rfl, hd, fun e G1 s1 => ?_, fun e c G1 hc s1 ec => qn e c G1 hc s1 ec⟩
    obtain ⟨w, hw⟩ := Option.isSome_iff_exists.mp e
    obtain ⟨⟨z1, z2⟩, q⟩ := qy w hw
    obtain ⟨rfl, _⟩ := winP_some hw
    obtain ⟨a, rfl, hT⟩ := da_win (hd.same s1)
    have l0 : (Str.empty).length = 0 := rfl
    have l2 : (Str.ofString "..").length = 2 := by decide +kernel
    obtain ⟨l, hi⟩ := w
    have l1 : (Str.ofString (toString l)).length ≤ 1921 := txt_le z1
    have g1 : l.natAbs.log2 < 1920 := log_of z1
    cases hi with
    | none =>
      have hT : SqT K G1 a [.int l, .non] := hT
      repeat (walk_at "st")
      refine i_tt (by rfl) ?_
      have m1 : (Str.ofString (toString l)).length ≤ sizeLine := by rw [sizeLine_eq]; omega
      have m2 : (Str.empty ++ Str.ofString (toString l)).length ≤ sizeLine := by rw [sizeLine_eq, Str.length_append]; omega
      have m3 : (Str.empty ++ Str.ofString (toString l) ++ Str.ofString "..").length ≤ sizeLine := by rw [sizeLine_eq, Str.length_append, Str.length_append]; omega
      have m4 : (Str.ofString "..").length ≤ sizeLine := by rw [sizeLine_eq]; omega
      repeat (walk_at "st")
      exact q _ s1
    | some k =>
      have hT : SqT K G1 a [.int l, .int k] := hT
      repeat (walk_at "st")
      refine i_ff (by rfl) ?_
      have l3 := txt_le (z2 k rfl)
      have g3 := log_of (z2 k rfl)
      have m1 : (Str.ofString (toString l)).length ≤ sizeLine := by rw [sizeLine_eq]; omega
      have m2 : (Str.empty ++ Str.ofString (toString l)).length ≤ sizeLine := by rw [sizeLine_eq, Str.length_append]; omega
      have m3 : (Str.empty ++ Str.ofString (toString l) ++ Str.ofString "..").length ≤ sizeLine := by rw [sizeLine_eq, Str.length_append, Str.length_append]; omega
      have m5 : (Str.empty ++ Str.ofString (toString l) ++ Str.ofString ".." ++ Str.ofString (toString k)).length ≤ sizeLine := by rw [sizeLine_eq, Str.length_append, Str.length_append, Str.length_append]; omega
      have m4 : (Str.ofString "..").length ≤ sizeLine := by rw [sizeLine_eq]; omega
      repeat (walk_at "st")
      exact q _ s1

end
end KX

namespace KX
open PySem PySem.Spec PyProof.Rows L2

local macro_rules | `(tactic| walk_at "kp") => `(tactic| first
  | with_reducible exact Kp.refl
  | with_reducible exact Kp.thenS (by assumption) (by walk_at "kp")
  | with_reducible exact Kp.thenO (by assumption) (by walk_at "ne") (by walk_at "kp")
  | fail)
local macro_rules | `(tactic| walk_at "hq") => `(tactic| first
  | assumption
  | with_reducible exact Kp.get (by assumption) (by walk_at "kp")
  | fail)
local macro_rules | `(tactic| walk_at "hg") => `(tactic| first
  | walk_at "hq"
  | exact upd_same
  | with_reducible exact (upd_ne (by walk_at "ne")).trans (by walk_at "hg")
  | with_reducible exact Same.get (by assumption) (by walk_at "hg")
  | with_reducible exact Off.get (by assumption) (by walk_at "ne") (by walk_at "hg")
  | fail)
local macro_rules | `(tactic| walk_at "ne") => `(tactic| first
  | assumption
  | (apply Ne.symm; assumption)
  | exact Rok.ne' (by assumption) (by walk_at "rok")
  | exact (Rok.ne' (by assumption) (by walk_at "rok")).symm
  | exact ne_some (by assumption) (by walk_at "hg")
  | exact (ne_some (by assumption) (by walk_at "hg")).symm
  | fail)
local macro_rules | `(tactic| walk_at "rok") => `(tactic| first
  | assumption
  | with_reducible exact Rok.kp (by assumption) (by walk_at "kp")
  | with_reducible exact Rok.same (by assumption) (by walk_at "rok")
  | fail)
local macro_rules | `(tactic| walk_at "sq") => `(tactic| first
  | assumption
  | with_reducible exact SqL.of (by walk_at "hg")
  | with_reducible exact SqT.of (by walk_at "hg")
  | fail)
local macro_rules | `(tactic| walk_at "dac") => `(tactic| first
  | assumption
  | exact DaF.same (by assumption) (by walk_at "dac")
  | fail)
local macro_rules | `(tactic| walk_at "da") => `(tactic| first
  | exact (DaF.non : DaS _ _ _ _)
  | exact (DaF.bl _ : DaS _ _ _ _)
  | exact (DaF.int _ : DaS _ _ _ _)
  | exact (DaF.str _ : DaS _ _ _ _)
  | exact DaF.non
  | exact DaF.bl _
  | exact DaF.int _
  | exact DaF.str _
  | walk_at "dac"
  | with_reducible exact DaF.lst (SqL.of (by walk_at "hq")) (fun _ => by assumption) (by walk_at "das")
  | with_reducible exact Da.lst (SqL.of (by walk_at "hq")) (by walk_at "das")
  | with_reducible exact DaF.tup (SqT.of (by walk_at "hq")) (by walk_at "das")
  | with_reducible exact DaF.dic (Rd.of (by walk_at "hq")) (by walk_at "dak")
  | fail)
local macro_rules | `(tactic| walk_at "das") => `(tactic| first
  | assumption
  | exact DaAllF.nil
  | exact DaAllF.cons (by walk_at "da") (by walk_at "das")
  | fail)
local macro_rules | `(tactic| walk_at "dak") => `(tactic| first
  | assumption
  | exact DaKvF.nil
  | exact DaKvF.cons (by walk_at "da") (by walk_at "dak")
  | fail)
local macro_rules | `(tactic| walk_at "shw") => `(tactic| first
  | assumption
  | exact shw_b2 _ _
  | exact ⟨by decide +kernel, by decide +kernel, by decide +kernel⟩
  | fail)
local macro_rules | `(tactic| walk_at "nod") => `(tactic| first
  | exact .inl rfl
  | exact .inr rfl
  | assumption
  | exact .inr (by assumption)
  | fail)
local macro_rules | `(tactic| walk_at "okd") => `(tactic| first
  | assumption
  | exact okd_of (by decide +kernel)
  | fail)
local macro_rules | `(tactic| walk_at "off") => `(tactic| first
  | assumption
  | exact Off.refl _ _
  | exact Same.refl _
  | with_reducible exact Same.thenS (by assumption) (by walk_at "off")
  | with_reducible exact Off.thenS (by assumption) (by walk_at "off")
  | with_reducible exact Off.thenO (by assumption) (by walk_at "off")
  | with_reducible exact Same.thenF (by assumption) (by assumption) (by walk_at "off") (by walk_at "off")
  | with_reducible exact Off.thenF (by assumption) (by assumption) (by walk_at "off") (by walk_at "off")
  | fail)
local macro_rules | `(tactic| walk_at "side") => `(tactic| first
  | assumption
  | omega
  | decide
  | (simp only [List.length_cons, List.length_nil]; decide)
  | exact ⟨by omega, by omega⟩
  | exact ⟨by omega, PyProof.noPylong_of_log2 (by first | assumption | decide)⟩
  | exact .inl ⟨by omega, by omega⟩
  | exact .inr ⟨by omega, by omega⟩
  | exact ⟨by decide, by decide, by decide⟩
  | exact ⟨by decide, by decide, by omega⟩
  | fail)
local macro_rules | `(tactic| walk_at "st") => `(tactic| first
  | with_reducible refine i_seq ?_
  | with_reducible refine i_bi ?_
  | with_reducible refine i_raise ?_
  | with_reducible refine i_callX ?_
  | with_reducible refine i_tryN ?_
  | with_reducible refine i_isNon ?_
  | with_reducible refine i_isNotNon ?_
  | ((with_reducible refine' i_split ?h ?z ?_); (case h => rfl); (case z => walk_at "side"))
  | with_reducible refine i_find ?_
  | ((with_reducible refine i_strI ?h ?_); (case h => walk_at "side"))
  | with_reducible refine i_fmt ?_
  | ((with_reducible refine i_fmS ?h ?_); (case h => walk_at "side"))
  | ((with_reducible refine i_fmI ?h ?_); (case h => walk_at "side"))
  | with_reducible refine i_jn ?_
  | with_reducible refine i_js0 ?_
  | with_reducible refine i_js1 ?_
  | ((with_reducible refine i_jsR ?h ?_); (case h => walk_at "side"))
  | with_reducible refine i_revS ?_
  | ((with_reducible refine i_exrev ?h ?_); (case h => walk_at "side"))
  | with_reducible refine i_revL ?_
  | ((with_reducible refine' i_exrevL ?h ?_); (case h => walk_at "sq"))
  | with_reducible refine i_par3 ?_
  | with_reducible refine i_ex3 ?_
  | with_reducible refine i_stB ?_
  | with_reducible refine i_mk0 ?_
  | with_reducible refine i_asg ?_
  | with_reducible refine i_c ?_
  | ((with_reducible refine' i_var ?h ?_); (case h => rfl))
  | with_reducible refine i_op ?_
  | with_reducible refine i_cons ?_
  | with_reducible refine i_nil ?_
  | ((with_reducible refine' i_gName ?h ?_); (case h => rfl))
  | with_reducible refine i_rI0 ?_
  | ((with_reducible refine i_rI ?h ?_); (case h => walk_at "side"))
  | with_reducible refine i_test ?_
  | with_reducible refine i_exbl ?_
  | with_reducible refine i_exint ?_
  | with_reducible refine i_exs ?_
  | with_reducible refine i_ret ?_
  | with_reducible refine i_next ?_
  | with_reducible refine i_ifS ?_
  | ((with_reducible refine' i_rIxL ?h ?e ?_); (case h => walk_at "sq"); (case e => first | assumption | rfl))
  | ((with_reducible refine' i_rIxT ?h ?e ?_); (case h => walk_at "sq"); (case e => first | assumption | rfl))
  | ((with_reducible refine' i_rIxS ?h ?e ?_); (case h => walk_at "side"); (case e => first | assumption | rfl))
  | with_reducible refine i_un ?_
  | with_reducible refine i_rU ?_
  | ((with_reducible refine i_rEqSame ?h ?_); (case h => rfl))
  | ((with_reducible refine i_rNeSame ?h ?_); (case h => rfl))
  | ((with_reducible refine i_rEq ?h ?_); (case h => rfl))
  | ((with_reducible refine i_rNe ?h ?_); (case h => rfl))
  | with_reducible refine i_tB ?_
  | with_reducible refine i_and ?_
  | with_reducible refine i_or ?_
  | with_reducible refine i_not ?_
  | with_reducible refine i_andV ?_
  | with_reducible refine i_orV ?_
  | with_reducible refine i_notV ?_
  | with_reducible refine i_if ?_
  | with_reducible refine i_chain ?_
  | with_reducible refine i_drop ?_
  | with_reducible refine i_retN ?_
  | with_reducible refine i_par ?_
  | with_reducible refine i_ex2 ?_
  | ((with_reducible refine' i_aug ?h ?_); (case h => rfl))
  | with_reducible refine i_gNil ?_
  | with_reducible refine i_gCons ?_
  | ((with_reducible refine' i_gTup ?h ?e ?_); (case h => walk_at "sq"); (case e => rfl))
  | with_reducible refine i_gSub ?_
  | ((with_reducible refine' i_rSetL ?h ?e ?_); (case h => walk_at "hg"); (case e => first | assumption | rfl))
  | with_reducible refine i_tup ?_
  | with_reducible refine i_lst ?_
  | with_reducible refine i_lstN ?_
  | with_reducible refine i_newDK ?_
  | with_reducible refine i_disp ?_
  | with_reducible refine i_pairs0 ?_
  | with_reducible refine i_pairs1 ?_
  | with_reducible refine i_call ?_
  | with_reducible refine i_cb ?_
  | with_reducible refine i_bm ?_
  | with_reducible refine i_m1 ?_
  | with_reducible refine i_m0 ?_
  | ((with_reducible refine' i_rAppend ?h ?e ?_); (case h => walk_at "hg"); (case e => walk_at "side"))
  | ((with_reducible refine i_rSlS ?h ?_); (case h => walk_at "side"))
  | ((with_reducible refine' i_rSlL ?h ?_); (case h => walk_at "sq"))
  | with_reducible refine i_sl ?_
  | with_reducible refine i_noPart ?_
  | with_reducible refine i_part ?_
  | with_reducible refine i_rng1 ?_
  | with_reducible refine i_iList ?_
  | with_reducible refine i_iStr ?_
  | ((with_reducible refine i_exrng ?h1 ?h2 ?_); (case h1 => walk_at "side"); (case h2 => walk_at "side"))
  | ((with_reducible refine' i_exl ?h ?_); (case h => walk_at "sq"))
  | with_reducible refine i_for ?_
  | with_reducible refine i_lc ?_
  | with_reducible refine i_yes ?_
  | with_reducible refine i_iteT ?_
  | with_reducible refine i_iteF ?_
  | ((with_reducible refine i_divmod ?h ?_); (case h => walk_at "side"))
  | ((with_reducible refine' i_isi ?h ?e ?_); (case h => walk_at "da"); (case e => decide))
  | ((with_reducible refine i_lenS ?h ?_); (case h => walk_at "side"))
  | ((with_reducible refine' i_lenL ?h ?_); (case h => walk_at "sq"))
  | ((with_reducible refine' i_lenT ?h ?_); (case h => walk_at "sq"))
  | ((with_reducible refine' i_repr ?h ?n ?e ?_); (case h => walk_at "da"); (case n => walk_at "nod"); (case e => walk_at "shw"))
  | ((with_reducible refine' i_rCat ?h ?e ?z ?_); (case h => walk_at "hg"); (case e => walk_at "hg"); (case z => walk_at "side"))
  | ((with_reducible refine i_rCatS ?h ?_); (case h => walk_at "side"))
  | with_reducible refine i_exstr ?_
  | ((with_reducible refine' i_join ?h ?z ?_); (case h => walk_at "sq"); (case z => walk_at "side"))
  | with_reducible refine i_abs ?_
  | with_reducible refine i_max ?_
  | with_reducible refine i_min ?_
  | ((with_reducible refine' i_rAll ?h ?_); (case h => walk_at "sq"))
  | ((with_reducible refine' i_lcEl ?h ?e ?_); (case h => walk_at "hg"); (case e => walk_at "side"))
  | with_reducible refine ⟨_, _, rfl, rfl, ?_⟩
  | with_reducible refine ⟨_, _, rfl, ?_⟩
  | with_reducible refine ⟨_, rfl, ?_⟩
  | with_reducible refine And.intro rfl ?_
  | ((with_reducible refine And.intro ?h ?_); (case h => walk_at "side"))
  | fail)

section
variable {P : Program} {w : World} {K : PySem.W.Frag} {mg : Str → Option Value} {base : Heap} {A : Ad}
def ordV : V → Nat
  | .str z => z.cps.getD 0 0
  | _ => 0
theorem signsV_get {x : Str} {i : Nat} {v : V} (h : (signsV x)[i]? = some v) : ∃ c, v = .str ⟨#[c]⟩ ∧ c ∈ x.cps.toList := by
  have hm := List.mem_of_getElem? h
  obtain ⟨c, hc, e⟩ := List.mem_map.mp hm
  exact ⟨c, e.symm, hc⟩
def sp_pnum : Sp := fun vs H Q _ => ∃ x, vs = [.str x] ∧ okS x 300 ∧ ∀ H', Same H H' → Q (oV (pnum x)) H'
theorem ok_parse_number (T : Txt K mg A) : FnOk P w K mg base CX0 1 A.f_parse_number A.d_parse_number ["word"] sp_pnum := by
  refine T.F_parse_number.ok sc_parse_number (fun vs H Q E h => ?_) (fun cdv Ar outer s H vs Q E hr h => ?_)
  · obtain ⟨_, rfl, _⟩ := h; rfl
  · obtain ⟨x, rfl, hx, q⟩ := h
    refine ⟨_, (pss_cons (ps_if (PW.pt (pw_or (pt_not (pt_chain op_le op_le pe_int (pe_callB call_lenN (by rfl) T.m_len (by decide +kernel) (pa_cons (pv 0) pa_nil)) (pe_glob (v := .int (60)) rfl T.c_MAX_DIGITS ⟨_, rfl⟩))) (pw_or1 (pt_not (pt_val (pe_callB (cr_all rfl) (by rfl) T.m_all (by decide +kernel) (pa_cons (pe_lc (own := [("digit", 1)]) rfl sc_parse_number.nd (pi_str (pv 0)) (blkOk_by (own := [("digit", 1)]) (N := ["word", "digit"]) (sc := defScope s_parse_number) (by decide +kernel)) (fun _ _ _ _ _ => (pg_name (i := 1) sc_parse_number.nd rfl (.inl rfl))) (fun _ _ _ _ _ => pts_nil) (fun _ _ _ _ _ => (pe_cmpR op_in_sign (pv 1) (pe_glob (v := .str "0123456789") rfl T.c_DIGITS ⟨_, rfl⟩) (by rfl)))) pa_nil)))))))
(pss_one (ps_ret pe_non))
pss_nil)
(pss_one (ps_ret (pe_ifExp (PW.pt (pw_and (pt_cmpR op_eq (pe_ix ix_str (pv 0) pe_int (fun _ _ => rfl)) pe_str (nomark _)) (pw_and1 (pt_cmpR op_ne (pv 0) pe_str (nomark _))))) pe_non (pe_callTy call_intS (by rfl) T.m_int (by decide +kernel) (pa_cons (pv 0) pa_nil)))))), ?_⟩
    have hl := hx.line (by decide)
    have hx1 := hx.1
    repeat (walk_at "st")
    refine i_ite (fun e => ?_) (fun e => ?_)
    · repeat (walk_at "st")
      refine i_ite (fun e2 => ?_) (fun e2 => ?_)
      · repeat (walk_at "st")
        have l8 : ¬ x.length ≤ 60 := by simp at e2; omega
        have en : pnum x = none := if_neg (by simp [l8])
        have q' := q _ (Same.refl H)
        rw [en] at q'
        exact q'
      · repeat (walk_at "st")
        have l8 : x.length ≤ 60 := by simp at e2; omega
        have l1 : 1 ≤ x.length := by have := of_decide_eq_true e; omega
        refine l_map wk_str (fun v => .bl (decide (ordV v ∈ dg))) (by rw [signsV_len, sizeLine_eq]; exact Nat.lt_of_le_of_lt l8 (by decide)) (fun _ _ => trivial) (fun i v H' R hv s1 hR => ?_) (fun D H' n1 s1 e1 => ?_)
        · obtain ⟨c, rfl, hc⟩ := signsV_get hv
          repeat (walk_at "st")
          exact hR _ (Same.refl _)
        · have e3 : (signsV x).map (fun v => V.bl (decide (ordV v ∈ dg))) = (x.cps.toList.map fun c => decide (c ∈ dg)).map V.bl := by
            simp only [signsV, List.map_map]; rfl
          rw [e3] at e1
          repeat (walk_at "st")
          have ed : ((x.cps.toList.map fun c => decide (c ∈ dg)).all id) = digs x := by
            rw [List.all_map]; rfl
          rw [ed]
          have q' := q _ s1
          refine i_ite (fun e4 => ?_) (fun e4 => ?_)
          · repeat (walk_at "st")
            have en : pnum x = none := if_neg (by have : digs x = false := by simpa using e4
                                                  simp [this])
            rw [en] at q'
            exact q'
          · have hd : digs x = true := by simpa using e4
            repeat (walk_at "st")
            obtain ⟨c, r, hcr⟩ : ∃ c r, x.cps.toList = c :: r := by
              cases hcr : x.cps.toList with
              | nil => have : x.length = x.cps.toList.length := rfl
                       rw [this, hcr] at l1; simp at l1
              | cons c r => exact ⟨c, r, rfl⟩
            have e0 : atI x.cps.toList 0 = some c := by rw [hcr]; unfold atI ixN; simp
            have hp : pnum x = if canS x = true then some (valS x) else none := if_pos (by simp [hd, l1, l8])
            have hc : canS x = !(decide (some c = some 48) && !decide (x = Str.ofString "0")) := by
              unfold canS; rw [hcr]; rfl
            rw [hp, hc] at q'
            repeat (walk_at "st")
            rw [str1_eq]
            refine i_ite (fun e5 => ?_) (fun e5 => ?_)
            · rw [e5] at q'
              repeat (walk_at "st")
              rw [strV_eq]
              refine i_ite (fun e6 => ?_) (fun e6 => ?_)
              · rw [e6] at q'
                repeat (walk_at "st")
                exact q'
              · rw [e6] at q'
                repeat (walk_at "st")
                refine i_intS (intS hd l1 (by omega)) (by omega) ?_
                exact q'
            · rw [e5] at q'
              repeat (walk_at "st")
              refine i_intS (intS hd l1 (by omega)) (by omega) ?_
              exact q'
    · repeat (walk_at "st")
      refine i_tt (by rfl) ?_
      repeat (walk_at "st")
      have l1 : ¬ 1 ≤ x.length := by have := of_decide_eq_false e; omega
      have en : pnum x = none := if_neg (by simp [l1])
      have q' := q _ (Same.refl H)
      rw [en] at q'
      exact q'
def sp_winin (K : PySem.W.Frag) : Sp := fun vs H Q _ => ∃ x, vs = [.str x] ∧ okS x 300 ∧ (winS x = none → ∀ H', Same H H' → Q .non H') ∧
  (∀ w, winS x = some w → ∀ a H', Same H H' → DaS K H' (.ref a) (winD w) → Q (.ref a) H')
theorem ok_window_in (T : Txt K mg A) (G_parse_number : FnOk P w K mg base CX0 1 A.f_parse_number A.d_parse_number ["word"] sp_pnum) (G_is_window : FnOk P w K mg base CX0 3 A.f_is_window A.d_is_window ["value"] (sp_dat K winB)) : FnOk P w K mg base CX0 4 A.f_window_in A.d_window_in ["text"] (sp_winin K) := by
  refine T.F_window_in.ok sc_window_in (fun vs H Q E h => ?_) (fun cdv Ar outer s H vs Q E hr h => ?_)
  · obtain ⟨_, rfl, _⟩ := h; rfl
  · obtain ⟨x, rfl, hx, qn, qs⟩ := h
    refine ⟨_, (pss_cons (ps_set (i := 1) sc_window_in.nd rfl (.inl rfl) (pe_splitN (pv 0) (pe_glob (v := .str "..") rfl T.c_DOTS ⟨_, rfl⟩)))
(pss_cons (ps_if (pt_cmpR op_ne (pe_callB call_lenN (by rfl) T.m_len (by decide +kernel) (pa_cons (pv 1) pa_nil)) pe_int (nomark _))
(pss_one (ps_ret pe_non))
pss_nil)
(pss_cons (ps_par (i := 2) (j := 3) rfl sc_window_in.nd rfl rfl (by decide) rfl rfl (pa_cons (L2.pe_call G_parse_number (hr.mono (by decide)) (by rfl) T.g_parse_number T.F_parse_number.kp T.b_parse_number .nil pass0 (pa_cons (pe_ix ix_list (pv 1) pe_int (fun _ _ => rfl)) pa_nil)) (pa_cons (L2.pe_call G_parse_number (hr.mono (by decide)) (by rfl) T.g_parse_number T.F_parse_number.kp T.b_parse_number .nil pass0 (pa_cons (pe_ix ix_list (pv 1) pe_int (fun _ _ => rfl)) pa_nil)) pa_nil)) (by rfl))
(pss_cons (ps_if (PW.pt (pw_or (pt_cmpR op_isNN (pv 2) pe_non (nomark _)) (pw_or1 (PW.pt (pw_and (pt_cmpR op_isNN (pv 3) pe_non (nomark _)) (pw_and1 (pt_cmpR op_ne (pe_ix ix_list (pv 1) pe_int (fun _ _ => rfl)) pe_str (nomark _))))))))
(pss_one (ps_ret pe_non))
pss_nil)
(pss_one (ps_ret (pe_ifExp (pt_val (L2.pe_call G_is_window (hr.mono (by decide)) (by rfl) T.g_is_window T.F_is_window.kp T.b_is_window .nil pass0 (pa_cons (pe_tup (pa_cons (pv 2) (pa_cons (pv 3) pa_nil))) pa_nil))) (pe_tup (pa_cons (pv 2) (pa_cons (pv 3) pa_nil))) pe_non))))))), ?_⟩
    have hl := hx.line (by decide)
    have hx1 := hx.1
    have h2 : x.length + 2 ≤ sizeLine := by rw [sizeLine_eq]; omega
    have hok := splits_ok hx
    repeat (walk_at "st")
    refine i_new fun p1 G1 n1 s1 e1 => ?_
    repeat (walk_at "st")
    by_cases hlen : (Txt.split x (Str.ofString "..")).length = 2
    · obtain ⟨a, b, hab⟩ : ∃ a b, Txt.split x (Str.ofString "..") = [a, b] := by
        match hm : Txt.split x (Str.ofString ".."), hlen with
        | [a, b], _ => exact ⟨a, b, rfl⟩
      have ha := hok a (by rw [hab]; simp)
      have hb := hok b (by rw [hab]; simp)
      rw [hab] at e1
      have e1' : G1 p1 = some (.lst [.str a, .str b]) := e1
      clear e1
      rw [hab]
      refine i_ff (by rfl) ?_
      repeat (walk_at "st")
      refine ⟨_, rfl, ha, fun G2 s2 => ?_⟩
      have e2 := s2 _ _ e1'
      repeat (walk_at "st")
      refine ⟨_, rfl, hb, fun G3 s3 => ?_⟩
      have e3 := s3 _ _ e2
      repeat (walk_at "st")
      have sw := winS_two hab
      cases hl1 : pnum a with
      | none =>
        refine i_tt (by rfl) ?_
        repeat (walk_at "st")
        exact qn (by rw [sw, hl1]; rfl) _ (s1.trans (s2.trans s3))
      | some l =>
        have l0 := pnum_nonneg hl1
        refine i_ff (by rfl) ?_
        repeat (walk_at "st")
        cases hh : pnum b with
        | none =>
          refine i_tt (by rfl) ?_
          repeat (walk_at "st")
          rw [strV_eq]
          refine i_ite (fun c => ?_) (fun c => ?_)
          · repeat (walk_at "st")
            have c' : ¬ b = Str.ofString "" := by simpa using c
            exact qn (by rw [sw, hl1, hh]; exact if_neg c') _ (s1.trans (s2.trans s3))
          · repeat (walk_at "st")
            have c' : b = Str.ofString "" := by simpa using c
            refine i_new fun p4 G4 n4 s4 e4 => ?_
            repeat (walk_at "st")
            refine ⟨_, _, rfl, (da_winT (w := (l, none)) (SqT.of e4)).da, fun G5 s5 => ?_⟩
            have wb : winB (winD (l, none)) = true := by unfold winB; rw [winP_D ⟨l0, fun _ z => by cases z⟩]; rfl
            rw [wb]
            repeat (walk_at "st")
            refine i_new fun p6 G6 n6 s6 e6 => ?_
            exact qs (l, none) (by rw [sw, hl1, hh]; exact if_pos c') _ _ (s1.trans (s2.trans (s3.trans (s4.trans (s5.trans s6))))) (da_winT (SqT.of e6))
        | some k =>
          have k0 := pnum_nonneg hh
          refine i_ff (by rfl) ?_
          repeat (walk_at "st")
          refine i_new fun p4 G4 n4 s4 e4 => ?_
          repeat (walk_at "st")
          refine ⟨_, _, rfl, (da_winT (w := (l, some k)) (SqT.of e4)).da, fun G5 s5 => ?_⟩
          repeat (walk_at "st")
          by_cases hlk : l ≤ k
          · have wb : winB (winD (l, some k)) = true := by unfold winB; rw [winP_D ⟨l0, fun _ z => by cases z; exact hlk⟩]; rfl
            rw [wb]
            repeat (walk_at "st")
            refine i_new fun p6 G6 n6 s6 e6 => ?_
            exact qs (l, some k) (by rw [sw, hl1, hh]; exact if_pos hlk) _ _ (s1.trans (s2.trans (s3.trans (s4.trans (s5.trans s6))))) (da_winT (SqT.of e6))
          · have wb : winB (winD (l, some k)) = false := by
              unfold winB
              have z : winP (winD (l, some k)) = none := if_neg (by omega)
              rw [z]; rfl
            rw [wb]
            repeat (walk_at "st")
            exact qn (by rw [sw, hl1, hh]; exact if_neg hlk) _ (s1.trans (s2.trans (s3.trans (s4.trans s5))))
    · refine i_tt (by rw [List.length_map]; simp; omega) ?_
      repeat (walk_at "st")
      exact qn (winS_not hlen) _ s1
def sp_parsew (K : PySem.W.Frag) (C : Addr) : Sp := fun vs H Q E => ∃ v d, vs = [v] ∧ Da K H v d ∧
  (∀ x, d = .str x → okS x 300 ∧ (winS x = none → ∀ c H', H c = none → Same H H' → H' c = some (.xd [("line", .int 1)]) → E (.ref C) (some c) H') ∧
    ∀ w, winS x = some w → ∀ a H', Same H H' → DaS K H' (.ref a) (winD w) → Q (.ref a) H') ∧
  (isi d "str" = false → ∀ c H', H c = none → Same H H' → H' c = some (.xd [("line", .int 0)]) → E (.ref C) (some c) H')
theorem ok_parse_window (T : Txt K mg A) (G_window_in : FnOk P w K mg base CX0 4 A.f_window_in A.d_window_in ["text"] (sp_winin K)) (G_InvalidTextx_initx : FnOk P w K mg base CX0 1 A.f_InvalidTextx_initx A.d_InvalidTextx_initx ["self", "line"] (spI A.c_InvalidText ["line"])) : FnOk P w K mg base (L2.CX P w) 5 A.f_parse_window A.d_parse_window ["text"] (sp_parsew K A.c_InvalidText) := by
  refine T.F_parse_window.okX sc_parse_window (fun vs H Q E h => ?_) (fun cdv Ar outer s H vs Q E hr h => ?_)
  · obtain ⟨_, _, rfl, _⟩ := h; rfl
  · obtain ⟨v, d, rfl, hd, qs, qn⟩ := h
    refine ⟨_, (pss_cons (ps_if (pt_not (pt_val (pe_callB call_isiD (by rfl) T.m_isinstance (by decide +kernel) (pa_cons (pv 0) (pa_cons (pe_bltn (v := .ty "str") rfl T.m_str (by decide +kernel) rfl) pa_nil)))))
(pss_one (ps_raiseN rfl (takes_of rfl rfl rfl rfl) (pmk_B T.EX_InvalidText.o T.iC_InvalidText T.tI_InvalidText G_InvalidTextx_initx (hr.mono (by decide)) T.b_InvalidTextx_initx pass0 (by rfl) T.gX_InvalidText (pa_cons pe_int pa_nil))))
pss_nil)
(pss_cons (ps_set (i := 1) sc_parse_window.nd rfl (.inl rfl) (L2.pe_call G_window_in (hr.mono (by decide)) (by rfl) T.g_window_in T.F_window_in.kp T.b_window_in .nil pass0 (pa_cons (pv 0) pa_nil)))
(pss_cons (ps_if (pt_cmpR op_isNN (pv 1) pe_non (nomark _))
(pss_one (ps_raiseN rfl (takes_of rfl rfl rfl rfl) (pmk_B T.EX_InvalidText.o T.iC_InvalidText T.tI_InvalidText G_InvalidTextx_initx (hr.mono (by decide)) T.b_InvalidTextx_initx pass0 (by rfl) T.gX_InvalidText (pa_cons pe_int pa_nil))))
pss_nil)
(pss_one (ps_ret (pv 1)))))), ?_⟩
    repeat (walk_at "st")
    refine i_ite (fun e => ?_) (fun e => ?_)
    · have e' : isi d "str" = false := by simpa using e
      repeat (walk_at "st")
      refine i_mkR rfl (by decide) fun c H2 hc s2 ec => ?_
      exact qn e' c H2 hc s2 ec
    · obtain ⟨x, rfl, rfl⟩ : ∃ x, v = .str x ∧ d = .str x := by
        cases hd <;> first | exact ⟨_, rfl, rfl⟩ | cases e
      obtain ⟨hx, q0, q1⟩ := qs x rfl
      repeat (walk_at "st")
      refine ⟨_, rfl, hx, fun hw G1 s1 => ?_, fun w hw a G1 s1 hda => ?_⟩
      · repeat (walk_at "st")
        refine i_tt (by rfl) ?_
        repeat (walk_at "st")
        refine i_mkR rfl (by decide) fun c H2 hc s2 ec => ?_
        exact q0 hw c H2 (none_of s1 hc) (s1.trans s2) ec
      · repeat (walk_at "st")
        refine i_ff (by rfl) ?_
        repeat (walk_at "st")
        exact q1 w hw a G1 s1 hda

end
end KX

namespace KX
open PySem PySem.Spec PyProof.Rows L2

local macro_rules | `(tactic| walk_at "kp") => `(tactic| first
  | with_reducible exact Kp.refl
  | with_reducible exact Kp.thenS (by assumption) (by walk_at "kp")
  | with_reducible exact Kp.thenO (by assumption) (by walk_at "ne") (by walk_at "kp")
  | fail)
local macro_rules | `(tactic| walk_at "hq") => `(tactic| first
  | assumption
  | with_reducible exact Kp.get (by assumption) (by walk_at "kp")
  | fail)
local macro_rules | `(tactic| walk_at "hg") => `(tactic| first
  | walk_at "hq"
  | exact upd_same
  | with_reducible exact (upd_ne (by walk_at "ne")).trans (by walk_at "hg")
  | with_reducible exact Same.get (by assumption) (by walk_at "hg")
  | with_reducible exact Off.get (by assumption) (by walk_at "ne") (by walk_at "hg")
  | fail)
local macro_rules | `(tactic| walk_at "ne") => `(tactic| first
  | assumption
  | (apply Ne.symm; assumption)
  | exact Rok.ne' (by assumption) (by walk_at "rok")
  | exact (Rok.ne' (by assumption) (by walk_at "rok")).symm
  | exact ne_some (by assumption) (by walk_at "hg")
  | exact (ne_some (by assumption) (by walk_at "hg")).symm
  | fail)
local macro_rules | `(tactic| walk_at "rok") => `(tactic| first
  | assumption
  | with_reducible exact Rok.kp (by assumption) (by walk_at "kp")
  | with_reducible exact Rok.same (by assumption) (by walk_at "rok")
  | fail)
local macro_rules | `(tactic| walk_at "sq") => `(tactic| first
  | assumption
  | with_reducible exact SqL.of (by walk_at "hg")
  | with_reducible exact SqT.of (by walk_at "hg")
  | fail)
local macro_rules | `(tactic| walk_at "dac") => `(tactic| first
  | assumption
  | exact DaF.same (by assumption) (by walk_at "dac")
  | fail)
local macro_rules | `(tactic| walk_at "da") => `(tactic| first
  | exact (DaF.non : DaS _ _ _ _)
  | exact (DaF.bl _ : DaS _ _ _ _)
  | exact (DaF.int _ : DaS _ _ _ _)
  | exact (DaF.str _ : DaS _ _ _ _)
  | exact DaF.non
  | exact DaF.bl _
  | exact DaF.int _
  | exact DaF.str _
  | walk_at "dac"
  | with_reducible exact DaF.lst (SqL.of (by walk_at "hq")) (fun _ => by assumption) (by walk_at "das")
  | with_reducible exact Da.lst (SqL.of (by walk_at "hq")) (by walk_at "das")
  | with_reducible exact DaF.tup (SqT.of (by walk_at "hq")) (by walk_at "das")
  | with_reducible exact DaF.dic (Rd.of (by walk_at "hq")) (by walk_at "dak")
  | fail)
local macro_rules | `(tactic| walk_at "das") => `(tactic| first
  | assumption
  | exact DaAllF.nil
  | exact DaAllF.cons (by walk_at "da") (by walk_at "das")
  | fail)
local macro_rules | `(tactic| walk_at "dak") => `(tactic| first
  | assumption
  | exact DaKvF.nil
  | exact DaKvF.cons (by walk_at "da") (by walk_at "dak")
  | fail)
local macro_rules | `(tactic| walk_at "shw") => `(tactic| first
  | assumption
  | exact shw_b2 _ _
  | exact ⟨by decide +kernel, by decide +kernel, by decide +kernel⟩
  | fail)
local macro_rules | `(tactic| walk_at "nod") => `(tactic| first
  | exact .inl rfl
  | exact .inr rfl
  | assumption
  | exact .inr (by assumption)
  | fail)
local macro_rules | `(tactic| walk_at "okd") => `(tactic| first
  | assumption
  | exact okd_of (by decide +kernel)
  | fail)
local macro_rules | `(tactic| walk_at "off") => `(tactic| first
  | assumption
  | exact Off.refl _ _
  | exact Same.refl _
  | with_reducible exact Same.thenS (by assumption) (by walk_at "off")
  | with_reducible exact Off.thenS (by assumption) (by walk_at "off")
  | with_reducible exact Off.thenO (by assumption) (by walk_at "off")
  | with_reducible exact Same.thenF (by assumption) (by assumption) (by walk_at "off") (by walk_at "off")
  | with_reducible exact Off.thenF (by assumption) (by assumption) (by walk_at "off") (by walk_at "off")
  | fail)
local macro_rules | `(tactic| walk_at "side") => `(tactic| first
  | assumption
  | omega
  | decide
  | (simp only [List.length_cons, List.length_nil]; decide)
  | exact ⟨by omega, by omega⟩
  | exact ⟨by omega, PyProof.noPylong_of_log2 (by first | assumption | decide)⟩
  | exact .inl ⟨by omega, by omega⟩
  | exact .inr ⟨by omega, by omega⟩
  | exact ⟨by decide, by decide, by decide⟩
  | exact ⟨by decide, by decide, by omega⟩
  | fail)
local macro_rules | `(tactic| walk_at "st") => `(tactic| first
  | with_reducible refine i_seq ?_
  | with_reducible refine i_bi ?_
  | with_reducible refine i_raise ?_
  | with_reducible refine i_callX ?_
  | with_reducible refine i_tryN ?_
  | with_reducible refine i_isNon ?_
  | with_reducible refine i_isNotNon ?_
  | ((with_reducible refine' i_split ?h ?z ?_); (case h => rfl); (case z => walk_at "side"))
  | with_reducible refine i_find ?_
  | ((with_reducible refine i_strI ?h ?_); (case h => walk_at "side"))
  | with_reducible refine i_fmt ?_
  | ((with_reducible refine i_fmS ?h ?_); (case h => walk_at "side"))
  | ((with_reducible refine i_fmI ?h ?_); (case h => walk_at "side"))
  | with_reducible refine i_jn ?_
  | with_reducible refine i_js0 ?_
  | with_reducible refine i_js1 ?_
  | ((with_reducible refine i_jsR ?h ?_); (case h => walk_at "side"))
  | with_reducible refine i_revS ?_
  | ((with_reducible refine i_exrev ?h ?_); (case h => walk_at "side"))
  | with_reducible refine i_revL ?_
  | ((with_reducible refine' i_exrevL ?h ?_); (case h => walk_at "sq"))
  | with_reducible refine i_par3 ?_
  | with_reducible refine i_ex3 ?_
  | with_reducible refine i_stB ?_
  | with_reducible refine i_mk0 ?_
  | with_reducible refine i_asg ?_
  | with_reducible refine i_c ?_
  | ((with_reducible refine' i_var ?h ?_); (case h => rfl))
  | with_reducible refine i_op ?_
  | with_reducible refine i_cons ?_
  | with_reducible refine i_nil ?_
  | ((with_reducible refine' i_gName ?h ?_); (case h => rfl))
  | with_reducible refine i_rI0 ?_
  | ((with_reducible refine i_rI ?h ?_); (case h => walk_at "side"))
  | with_reducible refine i_test ?_
  | with_reducible refine i_exbl ?_
  | with_reducible refine i_exint ?_
  | with_reducible refine i_exs ?_
  | with_reducible refine i_ret ?_
  | with_reducible refine i_next ?_
  | with_reducible refine i_ifS ?_
  | ((with_reducible refine' i_rIxL ?h ?e ?_); (case h => walk_at "sq"); (case e => first | assumption | rfl))
  | ((with_reducible refine' i_rIxT ?h ?e ?_); (case h => walk_at "sq"); (case e => first | assumption | rfl))
  | ((with_reducible refine' i_rIxS ?h ?e ?_); (case h => walk_at "side"); (case e => first | assumption | rfl))
  | with_reducible refine i_un ?_
  | with_reducible refine i_rU ?_
  | ((with_reducible refine i_rEqSame ?h ?_); (case h => rfl))
  | ((with_reducible refine i_rNeSame ?h ?_); (case h => rfl))
  | ((with_reducible refine i_rEq ?h ?_); (case h => rfl))
  | ((with_reducible refine i_rNe ?h ?_); (case h => rfl))
  | with_reducible refine i_tB ?_
  | with_reducible refine i_and ?_
  | with_reducible refine i_or ?_
  | with_reducible refine i_not ?_
  | with_reducible refine i_andV ?_
  | with_reducible refine i_orV ?_
  | with_reducible refine i_notV ?_
  | with_reducible refine i_if ?_
  | with_reducible refine i_chain ?_
  | with_reducible refine i_drop ?_
  | with_reducible refine i_retN ?_
  | with_reducible refine i_par ?_
  | with_reducible refine i_ex2 ?_
  | ((with_reducible refine' i_aug ?h ?_); (case h => rfl))
  | with_reducible refine i_gNil ?_
  | with_reducible refine i_gCons ?_
  | ((with_reducible refine' i_gTup ?h ?e ?_); (case h => walk_at "sq"); (case e => rfl))
  | with_reducible refine i_gSub ?_
  | ((with_reducible refine' i_rSetL ?h ?e ?_); (case h => walk_at "hg"); (case e => first | assumption | rfl))
  | with_reducible refine i_tup ?_
  | with_reducible refine i_lst ?_
  | with_reducible refine i_lstN ?_
  | with_reducible refine i_newDK ?_
  | with_reducible refine i_disp ?_
  | with_reducible refine i_pairs0 ?_
  | with_reducible refine i_pairs1 ?_
  | with_reducible refine i_call ?_
  | with_reducible refine i_cb ?_
  | with_reducible refine i_bm ?_
  | with_reducible refine i_m1 ?_
  | with_reducible refine i_m0 ?_
  | ((with_reducible refine' i_rAppend ?h ?e ?_); (case h => walk_at "hg"); (case e => walk_at "side"))
  | ((with_reducible refine i_rSlS ?h ?_); (case h => walk_at "side"))
  | ((with_reducible refine' i_rSlL ?h ?_); (case h => walk_at "sq"))
  | with_reducible refine i_sl ?_
  | with_reducible refine i_noPart ?_
  | with_reducible refine i_part ?_
  | with_reducible refine i_rng1 ?_
  | with_reducible refine i_iList ?_
  | with_reducible refine i_iStr ?_
  | ((with_reducible refine i_exrng ?h1 ?h2 ?_); (case h1 => walk_at "side"); (case h2 => walk_at "side"))
  | ((with_reducible refine' i_exl ?h ?_); (case h => walk_at "sq"))
  | with_reducible refine i_for ?_
  | with_reducible refine i_lc ?_
  | with_reducible refine i_yes ?_
  | with_reducible refine i_iteT ?_
  | with_reducible refine i_iteF ?_
  | ((with_reducible refine i_divmod ?h ?_); (case h => walk_at "side"))
  | ((with_reducible refine' i_isi ?h ?e ?_); (case h => walk_at "da"); (case e => decide))
  | ((with_reducible refine i_lenS ?h ?_); (case h => walk_at "side"))
  | ((with_reducible refine' i_lenL ?h ?_); (case h => walk_at "sq"))
  | ((with_reducible refine' i_lenT ?h ?_); (case h => walk_at "sq"))
  | ((with_reducible refine' i_repr ?h ?n ?e ?_); (case h => walk_at "da"); (case n => walk_at "nod"); (case e => walk_at "shw"))
  | ((with_reducible refine' i_rCat ?h ?e ?z ?_); (case h => walk_at "hg"); (case e => walk_at "hg"); (case z => walk_at "side"))
  | ((with_reducible refine i_rCatS ?h ?_); (case h => walk_at "side"))
  | with_reducible refine i_exstr ?_
  | ((with_reducible refine' i_join ?h ?z ?_); (case h => walk_at "sq"); (case z => walk_at "side"))
  | with_reducible refine i_abs ?_
  | with_reducible refine i_max ?_
  | with_reducible refine i_min ?_
  | ((with_reducible refine' i_rAll ?h ?_); (case h => walk_at "sq"))
  | ((with_reducible refine' i_lcEl ?h ?e ?_); (case h => walk_at "hg"); (case e => walk_at "side"))
  | with_reducible refine ⟨_, _, rfl, rfl, ?_⟩
  | with_reducible refine ⟨_, _, rfl, ?_⟩
  | with_reducible refine ⟨_, rfl, ?_⟩
  | with_reducible refine And.intro rfl ?_
  | ((with_reducible refine And.intro ?h ?_); (case h => walk_at "side"))
  | fail)

section
variable {P : Program} {w : World} {K : PySem.W.Frag} {mg : Str → Option Value} {base : Heap} {A : Ad}
theorem app_empty (x : Str) : x ++ Str.ofString "" = x := by
  have e : Str.ofString "" = Str.empty := by decide +kernel
  rw [e, Str.append_empty]
theorem empty_app (x : Str) : Str.empty ++ x = x := TL.ext_tl (by rw [tl_app]; rfl)
def sp_l_text (K : PySem.W.Frag) : Sp := fun vs H Q _ => ∃ v w, vs = [v] ∧ Da K H v (winD w) ∧ shortW w ∧ ∀ H', Same H H' → Q (.str (fmtS w)) H'
theorem ok_l_text (T : Txt K mg A) : Fg P w K mg base CX0 1 A.f_l_text A.d_l_text ["_law_window_here"] (sp_l_text K) := by
  refine ok_g T.F_l_text sc_l_text (fun vs H Q E h => ?_) (fun cdv Ar outer s H vs Q E hr h => ?_)
  · obtain ⟨_, _, rfl, _⟩ := h; rfl
  · obtain ⟨v, w, rfl, hd, ⟨z1, z2⟩, q⟩ := h
    refine ⟨_, (pss_one (ps_ret (pe_op op_catS (pe_op op_catS (pe_callTy call_strI (by rfl) T.m_str (by decide +kernel) (pa_cons (pe_ix ix_tup (pv 0) pe_int (fun _ _ => rfl)) pa_nil)) pe_str) (pe_ifExp (pt_cmpR op_isNN (pe_ix ix_tup (pv 0) pe_int (fun _ _ => rfl)) pe_non (nomark _)) pe_str (pe_callTy call_strI (by rfl) T.m_str (by decide +kernel) (pa_cons (pe_ix ix_tup (pv 0) pe_int (fun _ _ => rfl)) pa_nil)))))), ?_⟩
    have q' := q _ (Same.refl H)
    obtain ⟨a, rfl, hT⟩ := da_win hd
    have l2 : (Str.ofString "..").length = 2 := by decide +kernel
    have l0 : (Str.ofString "").length = 0 := by decide +kernel
    obtain ⟨l, hi⟩ := w
    have l1 : (Str.ofString (toString l)).length ≤ 1921 := txt_le z1
    have g1 : l.natAbs.log2 < 1920 := log_of z1
    have m1 : (Str.ofString (toString l)).length + (Str.ofString "..").length ≤ sizeLine := by rw [sizeLine_eq]; omega
    cases hi with
    | none =>
      have hT : SqT K H a [.int l, .non] := hT
      repeat (walk_at "st")
      refine i_tt (by rfl) ?_
      have m2 : (Str.ofString (toString l) ++ Str.ofString "..").length + (Str.ofString "").length ≤ sizeLine := by rw [sizeLine_eq, Str.length_append]; omega
      repeat (walk_at "st")
      have e : fmtS (l, none) = Str.ofString (toString l) ++ Str.ofString ".." ++ Str.ofString "" := by
        rw [app_empty]
        show Str.empty ++ Str.ofString (toString l) ++ Str.ofString ".." = _
        rw [empty_app]
      rw [e] at q'
      exact q'
    | some k =>
      have hT : SqT K H a [.int l, .int k] := hT
      repeat (walk_at "st")
      refine i_ff (by rfl) ?_
      have l3 : (Str.ofString (toString k)).length ≤ 1921 := txt_le (z2 k rfl)
      have g3 : k.natAbs.log2 < 1920 := log_of (z2 k rfl)
      have m2 : (Str.ofString (toString l) ++ Str.ofString "..").length + (Str.ofString (toString k)).length ≤ sizeLine := by rw [sizeLine_eq, Str.length_append]; omega
      repeat (walk_at "st")
      have e : fmtS (l, some k) = Str.ofString (toString l) ++ Str.ofString ".." ++ Str.ofString (toString k) := by
        show Str.empty ++ Str.ofString (toString l) ++ Str.ofString ".." ++ Str.ofString (toString k) = _
        rw [empty_app]
      rw [e] at q'
      exact q'
theorem i_neSigns {H : Hp} {Q : VK} {a b : Addr} {l : List Nat} (h : H a = some (.lst (l.map fun c => V.str ⟨#[c]⟩))) (k : H b = some (.lst [])) (hl : ∀ c ∈ l, c < 1114112) (q : Q (.bl (!l.isEmpty)) H) : rNeD K (.ref a) (.ref b) H Q := by
  obtain ⟨d, e, h1, h2, h3, h4, hq⟩ := i_eqSigns (K := K) (Q := fun v H' => ∃ b, v = .bl b ∧ Q (.bl (!b)) H') h k hl ⟨_, rfl, q⟩
  obtain ⟨b', e1, e2⟩ := hq
  cases e1
  exact ⟨d, e, h1, h2, h3, h4, e2⟩
def sp_l_number : Sp := fun vs H Q _ => ∃ x, vs = [.str x] ∧ okS x 300 ∧ ∀ H', Same H H' → Q (oV (lnum (TL.tl x))) H'
theorem ok_l_number (T : Txt K mg A) : Fg P w K mg base CX0 1 A.f_l_number A.d_l_number ["_law_word"] sp_l_number := by
  refine ok_g T.F_l_number sc_l_number (fun vs H Q E h => ?_) (fun cdv Ar outer s H vs Q E hr h => ?_)
  · obtain ⟨_, rfl, _⟩ := h; rfl
  · obtain ⟨x, rfl, hx, q⟩ := h
    refine ⟨_, (pss_cons (ps_if (PW.pt (pw_or (pt_cmpR op_eq (pv 0) pe_str (nomark _)) (pw_or (pt_cmpR (op_neD hr.room.units) (pe_lc (own := [("_law_sign", 1)]) rfl sc_l_number.nd (pi_str (pv 0)) (blkOk_by (own := [("_law_sign", 1)]) (N := ["_law_word", "_law_sign"]) (sc := defScope s_l_number) (by decide +kernel)) (fun _ _ _ _ _ => (pg_name (i := 1) sc_l_number.nd rfl (.inl rfl))) (fun _ _ _ _ _ => (pts_one (pt_cmpR op_notIn_sign (pv 1) pe_str (by rfl)))) (fun _ _ _ _ _ => (pv 1))) (pe_lst pa_nil) (nomark _)) (pw_or1 (PW.pt (pw_and (pt_cmpR op_eq (pe_ix ix_str (pv 0) pe_int (fun _ _ => rfl)) pe_str (nomark _)) (pw_and1 (pt_cmpR op_ne (pv 0) pe_str (nomark _)))))))))
(pss_one (ps_ret pe_non))
pss_nil)
(pss_one (ps_ret (pe_callTy call_intS (by rfl) T.m_int (by decide +kernel) (pa_cons (pv 0) pa_nil))))), ?_⟩
    have hl := hx.line (by decide)
    have hx1 := hx.1
    repeat (walk_at "st")
    rw [strV_eq]
    refine i_ite (fun e => ?_) (fun e => ?_)
    · repeat (walk_at "st")
      have e' : x = Str.ofString "" := of_decide_eq_true e
      have q' := q _ (Same.refl H)
      have en : lnum (TL.tl x) = none := if_neg fun z => z.1 (by rw [e']; decide +kernel)
      rw [en] at q'
      exact q'
    · repeat (walk_at "st")
      have e' : ¬ x = Str.ofString "" := of_decide_eq_false e
      have ne : TL.tl x ≠ [] := fun z => e' (TL.ext_tl (by rw [z]; decide +kernel))
      refine l_filter wk_str (fun v => !decide (ordV v ∈ dg)) id (by rw [signsV_len, sizeLine_eq]; exact Nat.lt_of_le_of_lt hx1 (by decide)) (fun _ _ => trivial) (fun i v H' R N hv s1 hR hN => ?_) (fun D H' n1 s1 e1 => ?_)
      · obtain ⟨c, rfl, hc⟩ := signsV_get hv
        repeat (walk_at "st")
        refine i_ite (fun e => ?_) (fun e => ?_)
        · repeat (walk_at "st")
          exact hR e _ (Same.refl _)
        · exact hN e _ (Same.refl _)
      · repeat (walk_at "st")
        refine i_new fun p2 G2 n2 s2 e2 => ?_
        repeat (walk_at "st")
        have e3 : List.map id (List.filter (fun v => !decide (ordV v ∈ dg)) (signsV x)) = (x.cps.toList.filter fun c => !decide (c ∈ dg)).map fun c => V.str ⟨#[c]⟩ := by
          simp only [signsV, List.filter_map, List.map_id_fun, id]; rfl
        rw [e3] at e1
        refine i_neSigns (s2 _ _ e1) e2 (fun c hc => hx.2 c (List.mem_filter.mp hc).1) ?_
        have q' := q _ (s1.trans s2)
        have ed : (x.cps.toList.filter fun c => !decide (c ∈ dg)).isEmpty = digs x := by
          unfold digs
          rw [Bool.eq_iff_iff, List.isEmpty_iff, List.filter_eq_nil_iff, List.all_eq_true]
          simp
        rw [ed]
        repeat (walk_at "st")
        refine i_ite (fun e4 => ?_) (fun e4 => ?_)
        · repeat (walk_at "st")
          have hd : ¬ digs x = true := by simpa using e4
          have en : lnum (TL.tl x) = none := if_neg fun z => hd (digs_iff.mpr z.2.1)
          rw [en] at q'
          exact q'
        · have hd : digs x = true := by simpa using e4
          repeat (walk_at "st")
          have l1 : 1 ≤ x.length := List.length_pos_iff.mpr ne
          obtain ⟨c, r, hcr⟩ : ∃ c r, x.cps.toList = c :: r := by
            cases hcr : x.cps.toList with
            | nil => exact absurd hcr ne
            | cons c r => exact ⟨c, r, rfl⟩
          have e0 : atI x.cps.toList 0 = some c := by rw [hcr]; unfold atI ixN; simp
          have hh : x.cps.toList.head? = some c := by rw [hcr]; rfl
          have ez : x = Str.ofString "0" ↔ TL.tl x = [48] := by
            have e : TL.tl (Str.ofString "0") = [48] := by decide +kernel
            rw [← e]
            exact ⟨fun z => by rw [z], fun z => TL.ext_tl z⟩
          have good : (c = 48 → x = Str.ofString "0") → lnum (TL.tl x) = some (valS x) := fun z =>
            if_pos ⟨ne, digs_iff.mp hd, fun y => ez.mp (z (by rw [show (TL.tl x).head? = some c from hh] at y; exact Option.some.inj y))⟩
          have bad : c = 48 → ¬ x = Str.ofString "0" → lnum (TL.tl x) = none := fun z1 z2 => if_neg fun y => z2 (ez.mpr (y.2.2 (by rw [show (TL.tl x).head? = some c from hh, z1])))
          repeat (walk_at "st")
          rw [str1_eq]
          refine i_ite (fun e5 => ?_) (fun e5 => ?_)
          · have c5 : c = 48 := by simpa using e5
            repeat (walk_at "st")
            rw [strV_eq]
            refine i_ite (fun e6 => ?_) (fun e6 => ?_)
            · have c6 : ¬ x = Str.ofString "0" := by simpa using e6
              repeat (walk_at "st")
              rw [bad c5 c6] at q'
              exact q'
            · have c6 : x = Str.ofString "0" := by simpa using e6
              repeat (walk_at "st")
              refine i_intS (intS hd l1 (by omega)) (by omega) ?_
              rw [good fun _ => c6] at q'
              exact q'
          · have c5 : ¬ c = 48 := by simpa using e5
            repeat (walk_at "st")
            refine i_intS (intS hd l1 (by omega)) (by omega) ?_
            rw [good fun z => absurd z c5] at q'
            exact q'
end
end KX

namespace KX
open PySem PySem.Spec PyProof.Rows L2

local macro_rules | `(tactic| walk_at "kp") => `(tactic| first
  | with_reducible exact Kp.refl
  | with_reducible exact Kp.thenS (by assumption) (by walk_at "kp")
  | with_reducible exact Kp.thenO (by assumption) (by walk_at "ne") (by walk_at "kp")
  | fail)
local macro_rules | `(tactic| walk_at "hq") => `(tactic| first
  | assumption
  | with_reducible exact Kp.get (by assumption) (by walk_at "kp")
  | fail)
local macro_rules | `(tactic| walk_at "hg") => `(tactic| first
  | walk_at "hq"
  | exact upd_same
  | with_reducible exact (upd_ne (by walk_at "ne")).trans (by walk_at "hg")
  | with_reducible exact Same.get (by assumption) (by walk_at "hg")
  | with_reducible exact Off.get (by assumption) (by walk_at "ne") (by walk_at "hg")
  | fail)
local macro_rules | `(tactic| walk_at "ne") => `(tactic| first
  | assumption
  | (apply Ne.symm; assumption)
  | exact Rok.ne' (by assumption) (by walk_at "rok")
  | exact (Rok.ne' (by assumption) (by walk_at "rok")).symm
  | exact ne_some (by assumption) (by walk_at "hg")
  | exact (ne_some (by assumption) (by walk_at "hg")).symm
  | fail)
local macro_rules | `(tactic| walk_at "rok") => `(tactic| first
  | assumption
  | with_reducible exact Rok.kp (by assumption) (by walk_at "kp")
  | with_reducible exact Rok.same (by assumption) (by walk_at "rok")
  | fail)
local macro_rules | `(tactic| walk_at "sq") => `(tactic| first
  | assumption
  | with_reducible exact SqL.of (by walk_at "hg")
  | with_reducible exact SqT.of (by walk_at "hg")
  | fail)
local macro_rules | `(tactic| walk_at "dac") => `(tactic| first
  | assumption
  | exact DaF.same (by assumption) (by walk_at "dac")
  | fail)
local macro_rules | `(tactic| walk_at "da") => `(tactic| first
  | exact (DaF.non : DaS _ _ _ _)
  | exact (DaF.bl _ : DaS _ _ _ _)
  | exact (DaF.int _ : DaS _ _ _ _)
  | exact (DaF.str _ : DaS _ _ _ _)
  | exact DaF.non
  | exact DaF.bl _
  | exact DaF.int _
  | exact DaF.str _
  | walk_at "dac"
  | with_reducible exact DaF.lst (SqL.of (by walk_at "hq")) (fun _ => by assumption) (by walk_at "das")
  | with_reducible exact Da.lst (SqL.of (by walk_at "hq")) (by walk_at "das")
  | with_reducible exact DaF.tup (SqT.of (by walk_at "hq")) (by walk_at "das")
  | with_reducible exact DaF.dic (Rd.of (by walk_at "hq")) (by walk_at "dak")
  | fail)
local macro_rules | `(tactic| walk_at "das") => `(tactic| first
  | assumption
  | exact DaAllF.nil
  | exact DaAllF.cons (by walk_at "da") (by walk_at "das")
  | fail)
local macro_rules | `(tactic| walk_at "dak") => `(tactic| first
  | assumption
  | exact DaKvF.nil
  | exact DaKvF.cons (by walk_at "da") (by walk_at "dak")
  | fail)
local macro_rules | `(tactic| walk_at "shw") => `(tactic| first
  | assumption
  | exact shw_b2 _ _
  | exact ⟨by decide +kernel, by decide +kernel, by decide +kernel⟩
  | fail)
local macro_rules | `(tactic| walk_at "nod") => `(tactic| first
  | exact .inl rfl
  | exact .inr rfl
  | assumption
  | exact .inr (by assumption)
  | fail)
local macro_rules | `(tactic| walk_at "okd") => `(tactic| first
  | assumption
  | exact okd_of (by decide +kernel)
  | fail)
local macro_rules | `(tactic| walk_at "off") => `(tactic| first
  | assumption
  | exact Off.refl _ _
  | exact Same.refl _
  | with_reducible exact Same.thenS (by assumption) (by walk_at "off")
  | with_reducible exact Off.thenS (by assumption) (by walk_at "off")
  | with_reducible exact Off.thenO (by assumption) (by walk_at "off")
  | with_reducible exact Same.thenF (by assumption) (by assumption) (by walk_at "off") (by walk_at "off")
  | with_reducible exact Off.thenF (by assumption) (by assumption) (by walk_at "off") (by walk_at "off")
  | fail)
local macro_rules | `(tactic| walk_at "side") => `(tactic| first
  | assumption
  | omega
  | decide
  | (simp only [List.length_cons, List.length_nil]; decide)
  | exact ⟨by omega, by omega⟩
  | exact ⟨by omega, PyProof.noPylong_of_log2 (by first | assumption | decide)⟩
  | exact .inl ⟨by omega, by omega⟩
  | exact .inr ⟨by omega, by omega⟩
  | exact ⟨by decide, by decide, by decide⟩
  | exact ⟨by decide, by decide, by omega⟩
  | fail)
local macro_rules | `(tactic| walk_at "st") => `(tactic| first
  | with_reducible refine i_seq ?_
  | with_reducible refine i_bi ?_
  | with_reducible refine i_raise ?_
  | with_reducible refine i_callX ?_
  | with_reducible refine i_tryN ?_
  | with_reducible refine i_isNon ?_
  | with_reducible refine i_isNotNon ?_
  | ((with_reducible refine' i_split ?h ?z ?_); (case h => rfl); (case z => walk_at "side"))
  | with_reducible refine i_find ?_
  | ((with_reducible refine i_strI ?h ?_); (case h => walk_at "side"))
  | with_reducible refine i_fmt ?_
  | ((with_reducible refine i_fmS ?h ?_); (case h => walk_at "side"))
  | ((with_reducible refine i_fmI ?h ?_); (case h => walk_at "side"))
  | with_reducible refine i_jn ?_
  | with_reducible refine i_js0 ?_
  | with_reducible refine i_js1 ?_
  | ((with_reducible refine i_jsR ?h ?_); (case h => walk_at "side"))
  | with_reducible refine i_revS ?_
  | ((with_reducible refine i_exrev ?h ?_); (case h => walk_at "side"))
  | with_reducible refine i_revL ?_
  | ((with_reducible refine' i_exrevL ?h ?_); (case h => walk_at "sq"))
  | with_reducible refine i_par3 ?_
  | with_reducible refine i_ex3 ?_
  | with_reducible refine i_stB ?_
  | with_reducible refine i_mk0 ?_
  | with_reducible refine i_asg ?_
  | with_reducible refine i_c ?_
  | ((with_reducible refine' i_var ?h ?_); (case h => rfl))
  | with_reducible refine i_op ?_
  | with_reducible refine i_cons ?_
  | with_reducible refine i_nil ?_
  | ((with_reducible refine' i_gName ?h ?_); (case h => rfl))
  | with_reducible refine i_rI0 ?_
  | ((with_reducible refine i_rI ?h ?_); (case h => walk_at "side"))
  | with_reducible refine i_test ?_
  | with_reducible refine i_exbl ?_
  | with_reducible refine i_exint ?_
  | with_reducible refine i_exs ?_
  | with_reducible refine i_ret ?_
  | with_reducible refine i_next ?_
  | with_reducible refine i_ifS ?_
  | ((with_reducible refine' i_rIxL ?h ?e ?_); (case h => walk_at "sq"); (case e => first | assumption | rfl))
  | ((with_reducible refine' i_rIxT ?h ?e ?_); (case h => walk_at "sq"); (case e => first | assumption | rfl))
  | ((with_reducible refine' i_rIxS ?h ?e ?_); (case h => walk_at "side"); (case e => first | assumption | rfl))
  | with_reducible refine i_un ?_
  | with_reducible refine i_rU ?_
  | ((with_reducible refine i_rEqSame ?h ?_); (case h => rfl))
  | ((with_reducible refine i_rNeSame ?h ?_); (case h => rfl))
  | ((with_reducible refine i_rEq ?h ?_); (case h => rfl))
  | ((with_reducible refine i_rNe ?h ?_); (case h => rfl))
  | with_reducible refine i_tB ?_
  | with_reducible refine i_and ?_
  | with_reducible refine i_or ?_
  | with_reducible refine i_not ?_
  | with_reducible refine i_andV ?_
  | with_reducible refine i_orV ?_
  | with_reducible refine i_notV ?_
  | with_reducible refine i_if ?_
  | with_reducible refine i_chain ?_
  | with_reducible refine i_drop ?_
  | with_reducible refine i_retN ?_
  | with_reducible refine i_par ?_
  | with_reducible refine i_ex2 ?_
  | ((with_reducible refine' i_aug ?h ?_); (case h => rfl))
  | with_reducible refine i_gNil ?_
  | with_reducible refine i_gCons ?_
  | ((with_reducible refine' i_gTup ?h ?e ?_); (case h => walk_at "sq"); (case e => rfl))
  | with_reducible refine i_gSub ?_
  | ((with_reducible refine' i_rSetL ?h ?e ?_); (case h => walk_at "hg"); (case e => first | assumption | rfl))
  | with_reducible refine i_tup ?_
  | with_reducible refine i_lst ?_
  | with_reducible refine i_lstN ?_
  | with_reducible refine i_newDK ?_
  | with_reducible refine i_disp ?_
  | with_reducible refine i_pairs0 ?_
  | with_reducible refine i_pairs1 ?_
  | with_reducible refine i_call ?_
  | with_reducible refine i_cb ?_
  | with_reducible refine i_bm ?_
  | with_reducible refine i_m1 ?_
  | with_reducible refine i_m0 ?_
  | ((with_reducible refine' i_rAppend ?h ?e ?_); (case h => walk_at "hg"); (case e => walk_at "side"))
  | ((with_reducible refine i_rSlS ?h ?_); (case h => walk_at "side"))
  | ((with_reducible refine' i_rSlL ?h ?_); (case h => walk_at "sq"))
  | with_reducible refine i_sl ?_
  | with_reducible refine i_noPart ?_
  | with_reducible refine i_part ?_
  | with_reducible refine i_rng1 ?_
  | with_reducible refine i_iList ?_
  | with_reducible refine i_iStr ?_
  | ((with_reducible refine i_exrng ?h1 ?h2 ?_); (case h1 => walk_at "side"); (case h2 => walk_at "side"))
  | ((with_reducible refine' i_exl ?h ?_); (case h => walk_at "sq"))
  | with_reducible refine i_for ?_
  | with_reducible refine i_lc ?_
  | with_reducible refine i_yes ?_
  | with_reducible refine i_iteT ?_
  | with_reducible refine i_iteF ?_
  | ((with_reducible refine i_divmod ?h ?_); (case h => walk_at "side"))
  | ((with_reducible refine' i_isi ?h ?e ?_); (case h => walk_at "da"); (case e => decide))
  | ((with_reducible refine i_lenS ?h ?_); (case h => walk_at "side"))
  | ((with_reducible refine' i_lenL ?h ?_); (case h => walk_at "sq"))
  | ((with_reducible refine' i_lenT ?h ?_); (case h => walk_at "sq"))
  | ((with_reducible refine' i_repr ?h ?n ?e ?_); (case h => walk_at "da"); (case n => walk_at "nod"); (case e => walk_at "shw"))
  | ((with_reducible refine' i_rCat ?h ?e ?z ?_); (case h => walk_at "hg"); (case e => walk_at "hg"); (case z => walk_at "side"))
  | ((with_reducible refine i_rCatS ?h ?_); (case h => walk_at "side"))
  | with_reducible refine i_exstr ?_
  | ((with_reducible refine' i_join ?h ?z ?_); (case h => walk_at "sq"); (case z => walk_at "side"))
  | with_reducible refine i_abs ?_
  | with_reducible refine i_max ?_
  | with_reducible refine i_min ?_
  | ((with_reducible refine' i_rAll ?h ?_); (case h => walk_at "sq"))
  | ((with_reducible refine' i_lcEl ?h ?e ?_); (case h => walk_at "hg"); (case e => walk_at "side"))
  | with_reducible refine ⟨_, _, rfl, rfl, ?_⟩
  | with_reducible refine ⟨_, _, rfl, ?_⟩
  | with_reducible refine ⟨_, rfl, ?_⟩
  | with_reducible refine And.intro rfl ?_
  | ((with_reducible refine And.intro ?h ?_); (case h => walk_at "side"))
  | fail)

section
variable {P : Program} {w : World} {K : PySem.W.Frag} {mg : Str → Option Value} {base : Heap} {A : Ad}
def sp_l_read (K : PySem.W.Frag) : Sp := fun vs H Q _ => ∃ x, vs = [.str x] ∧ okS x 300 ∧ (lread x = none → ∀ H', Same H H' → Q .non H') ∧
  (∀ w, lread x = some w → ∀ a H', Same H H' → DaS K H' (.ref a) (winD w) → Q (.ref a) H')
theorem ok_l_read (T : Txt K mg A) (G_l_number : Fg P w K mg base CX0 1 A.f_l_number A.d_l_number ["_law_word"] sp_l_number) : Fg P w K mg base CX0 2 A.f_l_read A.d_l_read ["_law_text_here"] (sp_l_read K) := by
  refine ok_g T.F_l_read sc_l_read (fun vs H Q E h => ?_) (fun cdv Ar outer s H vs Q E hr h => ?_)
  · obtain ⟨_, rfl, _⟩ := h; rfl
  · obtain ⟨x, rfl, hx, qn, qs⟩ := h
    refine ⟨_, (pss_cons (ps_set (i := 1) sc_l_read.nd rfl (.inl rfl) (pe_findN (pv 0) pe_str))
(pss_cons (ps_if (pt_cmpR op_lt (pv 1) pe_int (nomark _))
(pss_one (ps_ret pe_non))
pss_nil)
(pss_cons (ps_par (i := 2) (j := 3) rfl sc_l_read.nd rfl rfl (by decide) rfl rfl (pa_cons (pe_call G_l_number (hr.mono (by decide)) (by rfl) T.g_l_number T.F_l_number.kp T.b_l_number .nil pass0 (pa_cons (pe_slice sl_str (pv 0) po_none (po_some (pv 1))) pa_nil)) (pa_cons (pe_slice sl_str (pv 0) (po_some (pe_op op_add (pv 1) pe_int)) po_none) pa_nil)) (by rfl))
(pss_cons (ps_set (i := 4) sc_l_read.nd rfl (.inl rfl) (pe_ifExp (pt_cmpR op_eq (pv 3) pe_str (nomark _)) pe_non (pe_call G_l_number (hr.mono (by decide)) (by rfl) T.g_l_number T.F_l_number.kp T.b_l_number .nil pass0 (pa_cons (pv 3) pa_nil))))
(pss_cons (ps_if (PW.pt (pw_or (pt_cmpR op_isNN (pv 2) pe_non (nomark _)) (pw_or1 (PW.pt (pw_and (pt_cmpR op_ne (pv 3) pe_str (nomark _)) (pw_and1 (PW.pt (pw_or (pt_cmpR op_isNN (pv 4) pe_non (nomark _)) (pw_or1 (pt_cmpR op_lt (pv 4) (pv 2) (nomark _)))))))))))
(pss_one (ps_ret pe_non))
pss_nil)
(pss_one (ps_ret (pe_tup (pa_cons (pv 2) (pa_cons (pv 4) pa_nil)))))))))), ?_⟩
    have hl := hx.line (by decide)
    repeat (walk_at "st")
    rcases find_dd x with ⟨a, r, h1, h2, hf⟩ | ⟨h1, hf⟩
    · rw [hf]
      refine i_ff (decide_eq_false (by omega)) ?_
      have z2 : (cutS x (some (↑a.length + 2)) none).length ≤ sizeLine := Nat.le_trans (cutS_length _ _ _) hl
      have ta : TL.tl (cutS x none (some (a.length : Int))) = a := by
        rw [tl_cut_to (by omega), h2, Int.toNat_natCast, List.append_assoc, List.take_left]
      have tr : TL.tl (cutS x (some (↑a.length + 2)) none) = r := by
        rw [tl_cut_from (by omega), h2]
        have e : (↑a.length + 2 : Int).toNat = (a ++ DD).length := by simp; omega
        rw [e, List.drop_left]
      have sr : lread x = lAB r (lnum a) := by unfold lread; rw [h1]
      have e0 : cutS x (some (↑a.length + 2)) none = Str.ofString "" ↔ r = [] := by
        have e : TL.tl (Str.ofString "") = [] := by decide +kernel
        rw [← tr, ← e]
        exact ⟨fun q => by rw [q], fun q => TL.ext_tl q⟩
      repeat (walk_at "st")
      refine ⟨_, rfl, hx.cut _ _, fun G1 s1 => ?_⟩
      rw [ta]
      repeat (walk_at "st")
      rw [strV_eq]
      refine i_ite (fun e => ?_) (fun e => ?_)
      · have nr : r = [] := e0.mp (of_decide_eq_true e)
        repeat (walk_at "st")
        cases hl1 : lnum a with
        | none =>
          refine i_tt (by rfl) ?_
          repeat (walk_at "st")
          exact qn (by rw [sr, hl1]; rfl) _ s1
        | some l =>
          refine i_ff (by rfl) ?_
          repeat (walk_at "st")
          rw [strV_eq]
          refine i_ff (by rw [e]; rfl) ?_
          repeat (walk_at "st")
          refine i_new fun p2 G2 n2 s2 e2 => ?_
          exact qs (l, none) (by rw [sr, hl1]; unfold lAB; dsimp only; rw [if_pos nr]) _ _ (s1.trans s2) (da_winT (SqT.of e2))
      · have nr : ¬ r = [] := fun z => of_decide_eq_false e (e0.mpr z)
        repeat (walk_at "st")
        refine ⟨_, rfl, hx.cut _ _, fun G2 s2 => ?_⟩
        rw [tr]
        repeat (walk_at "st")
        cases hl1 : lnum a with
        | none =>
          refine i_tt (by rfl) ?_
          repeat (walk_at "st")
          exact qn (by rw [sr, hl1]; rfl) _ (s1.trans s2)
        | some l =>
          refine i_ff (by rfl) ?_
          repeat (walk_at "st")
          rw [strV_eq]
          refine i_tt (by rw [e]; rfl) ?_
          repeat (walk_at "st")
          cases hk : lnum r with
          | none =>
            refine i_tt (by rfl) ?_
            repeat (walk_at "st")
            exact qn (by rw [sr, hl1]; unfold lAB; dsimp only; rw [if_neg nr, hk]) _ (s1.trans s2)
          | some k =>
            refine i_ff (by rfl) ?_
            repeat (walk_at "st")
            dsimp only [oV]
            repeat (walk_at "st")
            refine i_ite (fun c => ?_) (fun c => ?_)
            · repeat (walk_at "st")
              exact qn (by rw [sr, hl1]; unfold lAB; dsimp only; rw [if_neg nr, hk]; dsimp only; rw [if_pos (of_decide_eq_true c)]) _ (s1.trans s2)
            · repeat (walk_at "st")
              refine i_new fun p3 G3 n3 s3 e3 => ?_
              exact qs (l, some k) (by rw [sr, hl1]; unfold lAB; dsimp only; rw [if_neg nr, hk]; dsimp only; rw [if_neg (of_decide_eq_false c)]) _ _ (s1.trans (s2.trans s3)) (da_winT (SqT.of e3))
    · rw [hf]
      refine i_tt (by decide) ?_
      repeat (walk_at "st")
      exact qn (by unfold lread; rw [h1]) _ (Same.refl H)
def sp_l_window (K : PySem.W.Frag) : Sp := fun vs H Q _ => ∃ r, vs = [.ref r] ∧ Rok H r ∧ ∀ a w H', okW w → w.1 < 10 ^ 55 → (∀ h, w.2 = some h → h < 10 ^ 56) → DaS K (wo r H') (.ref a) (winD w) → Rok H' r → Off r H H' → Q (.ref a) H'
theorem ok_l_window (T : Txt K mg A) (G_l_draw : Fg P w K mg base CX0 1 A.f_l_draw A.d_l_draw ["_law_rng_here", "_law_many"] sp_l_draw) : Fg P w K mg base CX0 2 A.f_l_window A.d_l_window ["_law_rng_here"] (sp_l_window K) := by
  refine ok_g T.F_l_window sc_l_window (fun vs H Q E h => ?_) (fun cdv Ar outer s H vs Q E hr h => ?_)
  · obtain ⟨_, rfl, _⟩ := h; rfl
  · obtain ⟨r, rfl, hR, q⟩ := h
    refine ⟨_, (pss_cons (ps_set (i := 1) sc_l_window.nd rfl (.inl rfl) (pe_ix ix_list (pe_lst (pa_cons pe_int (pa_cons (pe_call G_l_draw (hr.mono (by decide)) (by rfl) T.g_l_draw T.F_l_draw.kp T.b_l_draw .nil pass0 (pa_cons (pv 0) (pa_cons pe_int pa_nil))) (pa_cons (pe_call G_l_draw (hr.mono (by decide)) (by rfl) T.g_l_draw T.F_l_draw.kp T.b_l_draw .nil pass0 (pa_cons (pv 0) (pa_cons (pe_op op_pow pe_int pe_int) pa_nil))) pa_nil)))) (pe_call G_l_draw (hr.mono (by decide)) (by rfl) T.g_l_draw T.F_l_draw.kp T.b_l_draw .nil pass0 (pa_cons (pv 0) (pa_cons pe_int pa_nil))) (fun _ _ => rfl)))
(pss_one (ps_ret (pe_tup (pa_cons (pv 1) (pa_cons (pe_ix ix_list (pe_lst (pa_cons pe_non (pa_cons (pv 1) (pa_cons (pe_op op_add (pe_op op_add (pv 1) pe_int) (pe_call G_l_draw (hr.mono (by decide)) (by rfl) T.g_l_draw T.F_l_draw.kp T.b_l_draw .nil pass0 (pa_cons (pv 0) (pa_cons pe_int pa_nil)))) (pa_cons (pe_op op_add (pv 1) (pe_call G_l_draw (hr.mono (by decide)) (by rfl) T.g_l_draw T.F_l_draw.kp T.b_l_draw .nil pass0 (pa_cons (pv 0) (pa_cons (pe_op op_pow pe_int pe_int) pa_nil)))) pa_nil))))) (pe_call G_l_draw (hr.mono (by decide)) (by rfl) T.g_l_draw T.F_l_draw.kp T.b_l_draw .nil pass0 (pa_cons (pv 0) (pa_cons pe_int pa_nil))) (fun _ _ => rfl)) pa_nil)))))), ?_⟩
    have pw1 : (10 : Int) ^ 54 = 1000000000000000000000000000000000000000000000000000000 := by decide +kernel
    have pw2 : (10 : Int) ^ 55 = 10000000000000000000000000000000000000000000000000000000 := by decide +kernel
    have pw3 : (10 : Int) ^ 56 = 100000000000000000000000000000000000000000000000000000000 := by decide +kernel
    repeat (walk_at "st")
    refine ⟨_, _, rfl, (by walk_at "side"), (by first | decide | decide +kernel | assumption), (by walk_at "rok"), fun d1 G1 dl1 dh1 r1 o1 => ?_⟩
    repeat (walk_at "st")
    refine ⟨_, _, rfl, (by walk_at "side"), (by first | decide | decide +kernel | assumption), (by walk_at "rok"), fun d2 G2 dl2 dh2 r2 o2 => ?_⟩
    repeat (walk_at "st")
    refine i_new fun p3 G3 n3 s3 e3 => ?_
    repeat (walk_at "st")
    refine ⟨_, _, rfl, (by walk_at "side"), (by first | decide | decide +kernel | assumption), (by walk_at "rok"), fun d4 G4 dl4 dh4 r4 o4 => ?_⟩
    have z55 : (10 : Int) ^ Int.toNat 55 = 10000000000000000000000000000000000000000000000000000000 := by decide +kernel
    rw [z55] at dh2
    obtain ⟨v5, hv5, ev5⟩ := atI_lt (xs := [V.int 0, V.int d1, V.int d2]) dl4 dh4
    have k5 : ∃ l : Int, v5 = .int l ∧ 0 ≤ l ∧ l < 10000000000000000000000000000000000000000000000000000000 := by
      simp only [List.mem_cons, List.not_mem_nil, or_false] at hv5
      rcases hv5 with rfl | rfl | rfl
      all_goals exact ⟨_, rfl, by omega, by omega⟩
    obtain ⟨l, rfl, l0, l1⟩ := k5
    repeat (walk_at "st")
    refine ⟨_, _, rfl, (by walk_at "side"), (by first | decide | decide +kernel | assumption), (by walk_at "rok"), fun d6 G6 dl6 dh6 r6 o6 => ?_⟩
    repeat (walk_at "st")
    refine ⟨_, _, rfl, (by walk_at "side"), (by first | decide | decide +kernel | assumption), (by walk_at "rok"), fun d7 G7 dl7 dh7 r7 o7 => ?_⟩
    have z54 : (10 : Int) ^ Int.toNat 54 = 1000000000000000000000000000000000000000000000000000000 := by decide +kernel
    rw [z54] at dh7
    repeat (walk_at "st")
    refine i_new fun p8 G8 n8 s8 e8 => ?_
    repeat (walk_at "st")
    refine ⟨_, _, rfl, (by walk_at "side"), (by first | decide | decide +kernel | assumption), (by walk_at "rok"), fun d9 G9 dl9 dh9 r9 o9 => ?_⟩
    obtain ⟨v10, hv10, ev10⟩ := atI_lt (xs := [V.non, V.int l, V.int (l + 1 + d6), V.int (l + d7)]) dl9 dh9
    have k10 : ∃ o : Option Int, v10 = hiV o ∧ (∀ h, o = some h → l ≤ h) ∧ ∀ h, o = some h → h < 100000000000000000000000000000000000000000000000000000000 := by
      simp only [List.mem_cons, List.not_mem_nil, or_false] at hv10
      rcases hv10 with rfl | rfl | rfl | rfl
      · exact ⟨none, rfl, (fun h z => by cases z), (fun h z => by cases z)⟩
      · exact ⟨some _, rfl, (fun h z => by cases z; omega), (fun h z => by cases z; omega)⟩
      · exact ⟨some _, rfl, (fun h z => by cases z; omega), (fun h z => by cases z; omega)⟩
      · exact ⟨some _, rfl, (fun h z => by cases z; omega), (fun h z => by cases z; omega)⟩
    obtain ⟨o, rfl, o1, o2'⟩ := k10
    repeat (walk_at "st")
    refine i_new fun p11 G11 n11 s11 e11 => ?_
    have ne11 : p11 ≠ r := by walk_at "ne"
    have off : Off r H G11 := by walk_at "off"
    have rr : Rok G11 r := by walk_at "rok"
    refine q p11 (l, o) _ ⟨l0, o1⟩ (by rw [pw2]; exact l1) (fun h z => by rw [pw3]; exact o2' h z) (da_winT (SqT.of (by rw [wo_get ne11]; exact e11))) rr off
def sp_l_changed : Sp := fun vs H Q _ => ∃ r x n, vs = [.ref r, .str x] ∧ okS x n ∧ n ≤ 250 ∧ Rok H r ∧ ∀ y H', Chg (TL.tl x) (TL.tl y) → okS y (n + 1) → Rok H' r → Off r H H' → Q (.str y) H'
theorem signs_small : ∀ c ∈ (Str.ofString "0019.. -+_,:a\n").cps.toList, c < 1114112 := by decide +kernel
theorem okS_edit {x y : Str} {n i k : Nat} {X : List Nat} (h : okS x n) (e : TL.tl y = edit (TL.tl x) i X k) (hx : X.length ≤ 1) (hX : ∀ c ∈ X, c < 1114112) : okS y (n + 1) := by
  have e1 : y.length = (TL.tl y).length := rfl
  have e2 : x.length = (TL.tl x).length := rfl
  refine ⟨?_, fun c hc => ?_⟩
  · rw [e1, e]
    exact edit_len (by rw [← e2]; exact h.1) hx
  · have hc : c ∈ TL.tl y := hc
    rw [e] at hc
    unfold edit at hc
    rcases List.mem_append.mp hc with hc | hc
    · rcases List.mem_append.mp hc with hc | hc
      · exact h.2 c (List.mem_of_mem_take hc)
      · exact hX c hc
    · exact h.2 c (List.mem_of_mem_drop hc)
theorem joinL_mem {c : Nat} : ∀ {ps : List (List Nat)}, c ∈ TL.joinL DD ps → c = 46 ∨ ∃ p ∈ ps, c ∈ p
  | [], h => by simp [TL.joinL] at h
  | [p], h => .inr ⟨p, by simp, h⟩
  | p :: q :: r, h => by
    have h : c ∈ p ++ (DD ++ TL.joinL DD (q :: r)) := h
    rcases List.mem_append.mp h with h | h
    · exact .inr ⟨p, by simp, h⟩
    · rcases List.mem_append.mp h with h | h
      · simp at h; exact .inl h
      · rcases joinL_mem h with z | ⟨s, hs, z⟩
        · exact .inl z
        · exact .inr ⟨s, List.mem_cons_of_mem _ hs, z⟩
theorem tl_one (c : Nat) : TL.tl (⟨#[c]⟩ : Str) = [c] := rfl
theorem ok_l_changed (T : Txt K mg A) (G_l_draw : Fg P w K mg base CX0 1 A.f_l_draw A.d_l_draw ["_law_rng_here", "_law_many"] sp_l_draw) : Fg P w K mg base CX0 2 A.f_l_changed A.d_l_changed ["_law_rng_here", "_law_text_here"] sp_l_changed := by
  refine ok_g T.F_l_changed sc_l_changed (fun vs H Q E h => ?_) (fun cdv Ar outer s H vs Q E hr h => ?_)
  · obtain ⟨_, _, _, rfl, _⟩ := h; rfl
  · obtain ⟨r, x, n, rfl, hx, hn, hR, q⟩ := h
    refine ⟨_, (pss_cons (ps_par3 (i := 2) (j := 3) (l := 4) rfl sc_l_changed.nd rfl rfl rfl (by decide) (by decide) (by decide) rfl rfl rfl (pa_cons (pe_call G_l_draw (hr.mono (by decide)) (by rfl) T.g_l_draw T.F_l_draw.kp T.b_l_draw .nil pass0 (pa_cons (pv 0) (pa_cons (pe_op op_add (pe_callB call_lenN (by rfl) T.m_len (by decide +kernel) (pa_cons (pv 1) pa_nil)) pe_int) pa_nil))) (pa_cons (pe_ix ix_str pe_str (pe_call G_l_draw (hr.mono (by decide)) (by rfl) T.g_l_draw T.F_l_draw.kp T.b_l_draw .nil pass0 (pa_cons (pv 0) (pa_cons pe_int pa_nil))) (fun _ _ => rfl)) (pa_cons (pe_call G_l_draw (hr.mono (by decide)) (by rfl) T.g_l_draw T.F_l_draw.kp T.b_l_draw .nil pass0 (pa_cons (pv 0) (pa_cons pe_int pa_nil))) pa_nil))) (by rfl))
(pss_cons (ps_if (pt_cmpR op_eq (pv 4) pe_int (nomark _))
(pss_one (ps_ret (pe_op op_catS (pe_op op_catS (pe_slice sl_str (pv 1) po_none (po_some (pv 2))) (pv 3)) (pe_slice sl_str (pv 1) (po_some (pv 2)) po_none))))
pss_nil)
(pss_cons (ps_if (pt_cmpR op_eq (pv 4) pe_int (nomark _))
(pss_one (ps_ret (pe_op op_catS (pe_op op_catS (pe_slice sl_str (pv 1) po_none (po_some (pv 2))) (pv 3)) (pe_slice sl_str (pv 1) (po_some (pe_op op_add (pv 2) pe_int)) po_none))))
pss_nil)
(pss_cons (ps_if (pt_cmpR op_eq (pv 4) pe_int (nomark _))
(pss_one (ps_ret (pe_op op_catS (pe_slice sl_str (pv 1) po_none (po_some (pv 2))) (pe_slice sl_str (pv 1) (po_some (pe_op op_add (pv 2) pe_int)) po_none))))
pss_nil)
(pss_cons (ps_if (pt_cmpR op_eq (pv 4) pe_int (nomark _))
(pss_one (ps_ret (pe_op op_catS pe_str (pv 1))))
pss_nil)
(pss_one (ps_ret (pe_ifExp (pt_cmpR op_eq (pv 4) pe_int (nomark _)) (pe_revS (pv 1)) (pe_joinN pe_str (pe_revLN (pe_splitN (pv 1) pe_str))))))))))), ?_⟩
    have hl := hx.line (by omega)
    have hx1 := hx.1
    have lb : ((x.length : Int) + 1).natAbs.log2 < 9000 := Nat.lt_of_le_of_lt (Nat.log2_le_self _) (by omega)
    repeat (walk_at "st")
    refine ⟨_, _, rfl, (by walk_at "side"), (by first | decide | decide +kernel | assumption), (by walk_at "rok"), fun d1 G1 dl1 dh1 r1 o1 => ?_⟩
    repeat (walk_at "st")
    refine ⟨_, _, rfl, (by walk_at "side"), (by first | decide | decide +kernel | assumption), (by walk_at "rok"), fun d2 G2 dl2 dh2 r2 o2 => ?_⟩
    obtain ⟨c, hc, ec⟩ := atN_lt (xs := (Str.ofString "0019.. -+_,:a\n").cps.toList) dl2 dh2
    have hc2 : c < 1114112 := signs_small c hc
    have g14 : (Str.ofString "0019.. -+_,:a\n").length ≤ sizeLine := by rw [sizeLine_eq]; decide +kernel
    repeat (walk_at "st")
    refine ⟨_, _, rfl, (by walk_at "side"), (by first | decide | decide +kernel | assumption), (by walk_at "rok"), fun d3 G3 dl3 dh3 r3 o3 => ?_⟩
    repeat (walk_at "st")
    have off : Off r H G3 := by walk_at "off"
    have t1 : TL.tl (cutS x none (some d1)) = (TL.tl x).take d1.toNat := tl_cut_to dl1
    have t2 : TL.tl (cutS x (some d1) none) = (TL.tl x).drop d1.toNat := tl_cut_from dl1
    have t3 : TL.tl (cutS x (some (d1 + 1)) none) = (TL.tl x).drop (d1.toNat + 1) := by
      rw [tl_cut_from (by omega)]; congr 1; omega
    have b1 := (hx.cut none (some d1)).1
    have b2 := (hx.cut (some d1) none).1
    have b3 := (hx.cut (some (d1 + 1)) none).1
    have l1 : (⟨#[c]⟩ : Str).length = 1 := rfl
    have m1 : (cutS x none (some d1)).length + (⟨#[c]⟩ : Str).length ≤ sizeLine := by rw [sizeLine_eq, l1]; omega
    have m2 : (cutS x none (some d1) ++ (⟨#[c]⟩ : Str)).length + (cutS x (some d1) none).length ≤ sizeLine := by rw [sizeLine_eq, Str.length_append, l1]; omega
    have m3 : (cutS x none (some d1) ++ (⟨#[c]⟩ : Str)).length + (cutS x (some (d1 + 1)) none).length ≤ sizeLine := by rw [sizeLine_eq, Str.length_append, l1]; omega
    have m4 : (cutS x none (some d1)).length + (cutS x (some (d1 + 1)) none).length ≤ sizeLine := by rw [sizeLine_eq]; omega
    have lz : (Str.ofString "0").length = 1 := by decide +kernel
    have m5 : (Str.ofString "0").length + x.length ≤ sizeLine := by rw [sizeLine_eq, lz]; omega
    refine i_ite (fun e => ?_) (fun e => ?_)
    · repeat (walk_at "st")
      have e1 : TL.tl (cutS x none (some d1) ++ (⟨#[c]⟩ : Str) ++ cutS x (some d1) none) = edit (TL.tl x) d1.toNat [c] 0 := by
        rw [tl_app, tl_app, t1, t2]; rfl
      exact q _ _ (e1 ▸ .ed _ _ _ (Nat.le_refl 1) (by omega)) (okS_edit hx e1 (Nat.le_refl 1) (by simpa using hc2)) r3 off
    · repeat (walk_at "st")
      refine i_ite (fun e => ?_) (fun e => ?_)
      · repeat (walk_at "st")
        have e1 : TL.tl (cutS x none (some d1) ++ (⟨#[c]⟩ : Str) ++ cutS x (some (d1 + 1)) none) = edit (TL.tl x) d1.toNat [c] 1 := by
          rw [tl_app, tl_app, t1, t3]; rfl
        exact q _ _ (e1 ▸ .ed _ _ _ (Nat.le_refl 1) (by omega)) (okS_edit hx e1 (Nat.le_refl 1) (by simpa using hc2)) r3 off
      · repeat (walk_at "st")
        refine i_ite (fun e => ?_) (fun e => ?_)
        · repeat (walk_at "st")
          have e1 : TL.tl (cutS x none (some d1) ++ cutS x (some (d1 + 1)) none) = edit (TL.tl x) d1.toNat [] 1 := by
            rw [tl_app, t1, t3]; unfold edit; simp
          exact q _ _ (e1 ▸ .ed _ _ _ (Nat.zero_le 1) (by omega)) (okS_edit hx e1 (Nat.zero_le 1) (by simp)) r3 off
        · repeat (walk_at "st")
          refine i_ite (fun e => ?_) (fun e => ?_)
          · repeat (walk_at "st")
            have e1 : TL.tl (Str.ofString "0" ++ x) = edit (TL.tl x) 0 [48] 0 := by
              rw [tl_app]; unfold edit
              have e : TL.tl (Str.ofString "0") = [48] := by decide +kernel
              rw [e]; simp
            exact q _ _ (e1 ▸ .ed _ _ _ (Nat.le_refl 1) (by omega)) (okS_edit hx e1 (Nat.le_refl 1) (by simp)) r3 off
          · repeat (walk_at "st")
            refine i_ite (fun e => ?_) (fun e => ?_)
            · repeat (walk_at "st")
              have e1 : TL.tl (⟨x.cps.toList.reverse.toArray⟩ : Str) = (TL.tl x).reverse := rfl
              refine q _ _ (e1 ▸ .rev) ⟨?_, fun c hc => ?_⟩ r3 off
              · show (x.cps.toList.reverse.toArray).size ≤ n + 1
                rw [List.size_toArray, List.length_reverse]
                have : x.length = x.cps.toList.length := rfl
                omega
              · exact hx.2 c (List.mem_reverse.mp hc)
            · repeat (walk_at "st")
              have m6 : x.length + 2 ≤ sizeLine := by rw [sizeLine_eq]; omega
              repeat (walk_at "st")
              refine i_new fun p4 G4 n4 s4 e4 => ?_
              repeat (walk_at "st")
              refine i_new fun p5 G5 n5 s5 e5 => ?_
              have e5' : G5 p5 = some (.lst ((Txt.split x (Str.ofString "..")).reverse.map V.str)) := by rw [e5, List.map_reverse]
              have sp := spl_sum _ (TL.tl x) (Nat.le_refl _)
              rw [← tl_split, List.map_map, List.length_map] at sp
              have el : (TL.tl ∘ id : Str → List Nat) = TL.tl := rfl
              have es : (List.map ((fun p : List Nat => p.length) ∘ TL.tl) (Txt.split x (Str.ofString ".."))).sum = (List.map (fun z : Str => z.length) (Txt.split x (Str.ofString ".."))).sum := rfl
              rw [es] at sp
              have lx : x.length = (TL.tl x).length := rfl
              have z5 : (((Txt.split x (Str.ofString "..")).reverse).map (·.length)).sum + (Txt.split x (Str.ofString "..")).reverse.length * (Str.ofString "..").length ≤ 16777216 := by
                have l2 : (Str.ofString "..").length = 2 := by decide +kernel
                rw [List.map_reverse, List.sum_reverse, List.length_reverse, l2]
                omega
              refine i_join (SqL.of e5') z5 ?_
              have et : TL.tl (Txt.join (Str.ofString "..") (Txt.split x (Str.ofString "..")).reverse) = TL.joinL DD (TL.spl DD 0 [] (TL.tl x)).reverse := by
                rw [TL.join_eq, TL.tl_join, tl_dd, List.map_reverse, tl_split]
              refine q _ _ (et ▸ .turn) ⟨?_, fun c hc => ?_⟩ (by walk_at "rok") (by walk_at "off")
              · have e1 : (Txt.join (Str.ofString "..") (Txt.split x (Str.ofString "..")).reverse).length = (TL.tl (Txt.join (Str.ofString "..") (Txt.split x (Str.ofString "..")).reverse)).length := rfl
                rw [e1, et, turn_len]
                omega
              · have hc : c ∈ TL.tl (Txt.join (Str.ofString "..") (Txt.split x (Str.ofString "..")).reverse) := hc
                rw [et] at hc
                rcases joinL_mem hc with z | ⟨p, hp, z⟩
                · omega
                · rcases (spl_mem (List.mem_reverse.mp hp)).2 c z with z | z
                  · simp at z
                  · exact hx.2 c z
end
end KX

namespace KX
open PySem PySem.Spec PyProof.Rows L2

local macro_rules | `(tactic| walk_at "kp") => `(tactic| first
  | with_reducible exact Kp.refl
  | with_reducible exact Kp.thenS (by assumption) (by walk_at "kp")
  | with_reducible exact Kp.thenO (by assumption) (by walk_at "ne") (by walk_at "kp")
  | fail)
local macro_rules | `(tactic| walk_at "hq") => `(tactic| first
  | assumption
  | with_reducible exact Kp.get (by assumption) (by walk_at "kp")
  | fail)
local macro_rules | `(tactic| walk_at "hg") => `(tactic| first
  | walk_at "hq"
  | exact upd_same
  | with_reducible exact (upd_ne (by walk_at "ne")).trans (by walk_at "hg")
  | with_reducible exact Same.get (by assumption) (by walk_at "hg")
  | with_reducible exact Off.get (by assumption) (by walk_at "ne") (by walk_at "hg")
  | fail)
local macro_rules | `(tactic| walk_at "ne") => `(tactic| first
  | assumption
  | (apply Ne.symm; assumption)
  | exact Rok.ne' (by assumption) (by walk_at "rok")
  | exact (Rok.ne' (by assumption) (by walk_at "rok")).symm
  | exact ne_some (by assumption) (by walk_at "hg")
  | exact (ne_some (by assumption) (by walk_at "hg")).symm
  | fail)
local macro_rules | `(tactic| walk_at "rok") => `(tactic| first
  | assumption
  | with_reducible exact Rok.kp (by assumption) (by walk_at "kp")
  | with_reducible exact Rok.same (by assumption) (by walk_at "rok")
  | fail)
local macro_rules | `(tactic| walk_at "sq") => `(tactic| first
  | assumption
  | with_reducible exact SqL.of (by walk_at "hg")
  | with_reducible exact SqT.of (by walk_at "hg")
  | fail)
local macro_rules | `(tactic| walk_at "dac") => `(tactic| first
  | assumption
  | exact DaF.same (by assumption) (by walk_at "dac")
  | fail)
local macro_rules | `(tactic| walk_at "da") => `(tactic| first
  | exact (DaF.non : DaS _ _ _ _)
  | exact (DaF.bl _ : DaS _ _ _ _)
  | exact (DaF.int _ : DaS _ _ _ _)
  | exact (DaF.str _ : DaS _ _ _ _)
  | exact DaF.non
  | exact DaF.bl _
  | exact DaF.int _
  | exact DaF.str _
  | walk_at "dac"
  | with_reducible exact DaF.lst (SqL.of (by walk_at "hq")) (fun _ => by assumption) (by walk_at "das")
  | with_reducible exact Da.lst (SqL.of (by walk_at "hq")) (by walk_at "das")
  | with_reducible exact DaF.tup (SqT.of (by walk_at "hq")) (by walk_at "das")
  | with_reducible exact DaF.dic (Rd.of (by walk_at "hq")) (by walk_at "dak")
  | fail)
local macro_rules | `(tactic| walk_at "das") => `(tactic| first
  | assumption
  | exact DaAllF.nil
  | exact DaAllF.cons (by walk_at "da") (by walk_at "das")
  | fail)
local macro_rules | `(tactic| walk_at "dak") => `(tactic| first
  | assumption
  | exact DaKvF.nil
  | exact DaKvF.cons (by walk_at "da") (by walk_at "dak")
  | fail)
local macro_rules | `(tactic| walk_at "shw") => `(tactic| first
  | assumption
  | exact shw_b2 _ _
  | exact ⟨by decide +kernel, by decide +kernel, by decide +kernel⟩
  | fail)
local macro_rules | `(tactic| walk_at "nod") => `(tactic| first
  | exact .inl rfl
  | exact .inr rfl
  | assumption
  | exact .inr (by assumption)
  | fail)
local macro_rules | `(tactic| walk_at "okd") => `(tactic| first
  | assumption
  | exact okd_of (by decide +kernel)
  | fail)
local macro_rules | `(tactic| walk_at "off") => `(tactic| first
  | assumption
  | exact Off.refl _ _
  | exact Same.refl _
  | with_reducible exact Same.thenS (by assumption) (by walk_at "off")
  | with_reducible exact Off.thenS (by assumption) (by walk_at "off")
  | with_reducible exact Off.thenO (by assumption) (by walk_at "off")
  | with_reducible exact Same.thenF (by assumption) (by assumption) (by walk_at "off") (by walk_at "off")
  | with_reducible exact Off.thenF (by assumption) (by assumption) (by walk_at "off") (by walk_at "off")
  | fail)
local macro_rules | `(tactic| walk_at "side") => `(tactic| first
  | assumption
  | omega
  | decide
  | (simp only [List.length_cons, List.length_nil]; decide)
  | exact ⟨by omega, by omega⟩
  | exact ⟨by omega, PyProof.noPylong_of_log2 (by first | assumption | decide)⟩
  | exact .inl ⟨by omega, by omega⟩
  | exact .inr ⟨by omega, by omega⟩
  | exact ⟨by decide, by decide, by decide⟩
  | exact ⟨by decide, by decide, by omega⟩
  | fail)
local macro_rules | `(tactic| walk_at "st") => `(tactic| first
  | with_reducible refine i_seq ?_
  | with_reducible refine i_bi ?_
  | with_reducible refine i_raise ?_
  | with_reducible refine i_callX ?_
  | with_reducible refine i_tryN ?_
  | with_reducible refine i_isNon ?_
  | with_reducible refine i_isNotNon ?_
  | ((with_reducible refine' i_split ?h ?z ?_); (case h => rfl); (case z => walk_at "side"))
  | with_reducible refine i_find ?_
  | ((with_reducible refine i_strI ?h ?_); (case h => walk_at "side"))
  | with_reducible refine i_fmt ?_
  | ((with_reducible refine i_fmS ?h ?_); (case h => walk_at "side"))
  | ((with_reducible refine i_fmI ?h ?_); (case h => walk_at "side"))
  | with_reducible refine i_jn ?_
  | with_reducible refine i_js0 ?_
  | with_reducible refine i_js1 ?_
  | ((with_reducible refine i_jsR ?h ?_); (case h => walk_at "side"))
  | with_reducible refine i_revS ?_
  | ((with_reducible refine i_exrev ?h ?_); (case h => walk_at "side"))
  | with_reducible refine i_revL ?_
  | ((with_reducible refine' i_exrevL ?h ?_); (case h => walk_at "sq"))
  | with_reducible refine i_par3 ?_
  | with_reducible refine i_ex3 ?_
  | with_reducible refine i_stB ?_
  | with_reducible refine i_mk0 ?_
  | with_reducible refine i_asg ?_
  | with_reducible refine i_c ?_
  | ((with_reducible refine' i_var ?h ?_); (case h => rfl))
  | with_reducible refine i_op ?_
  | with_reducible refine i_cons ?_
  | with_reducible refine i_nil ?_
  | ((with_reducible refine' i_gName ?h ?_); (case h => rfl))
  | with_reducible refine i_rI0 ?_
  | ((with_reducible refine i_rI ?h ?_); (case h => walk_at "side"))
  | with_reducible refine i_test ?_
  | with_reducible refine i_exbl ?_
  | with_reducible refine i_exint ?_
  | with_reducible refine i_exs ?_
  | with_reducible refine i_ret ?_
  | with_reducible refine i_next ?_
  | with_reducible refine i_ifS ?_
  | ((with_reducible refine' i_rIxL ?h ?e ?_); (case h => walk_at "sq"); (case e => first | assumption | rfl))
  | ((with_reducible refine' i_rIxT ?h ?e ?_); (case h => walk_at "sq"); (case e => first | assumption | rfl))
  | ((with_reducible refine' i_rIxS ?h ?e ?_); (case h => walk_at "side"); (case e => first | assumption | rfl))
  | with_reducible refine i_un ?_
  | with_reducible refine i_rU ?_
  | ((with_reducible refine i_rEqSame ?h ?_); (case h => rfl))
  | ((with_reducible refine i_rNeSame ?h ?_); (case h => rfl))
  | ((with_reducible refine i_rEq ?h ?_); (case h => rfl))
  | ((with_reducible refine i_rNe ?h ?_); (case h => rfl))
  | with_reducible refine i_tB ?_
  | with_reducible refine i_and ?_
  | with_reducible refine i_or ?_
  | with_reducible refine i_not ?_
  | with_reducible refine i_andV ?_
  | with_reducible refine i_orV ?_
  | with_reducible refine i_notV ?_
  | with_reducible refine i_if ?_
  | with_reducible refine i_chain ?_
  | with_reducible refine i_drop ?_
  | with_reducible refine i_retN ?_
  | with_reducible refine i_par ?_
  | with_reducible refine i_ex2 ?_
  | ((with_reducible refine' i_aug ?h ?_); (case h => rfl))
  | with_reducible refine i_gNil ?_
  | with_reducible refine i_gCons ?_
  | ((with_reducible refine' i_gTup ?h ?e ?_); (case h => walk_at "sq"); (case e => rfl))
  | with_reducible refine i_gSub ?_
  | ((with_reducible refine' i_rSetL ?h ?e ?_); (case h => walk_at "hg"); (case e => first | assumption | rfl))
  | with_reducible refine i_tup ?_
  | with_reducible refine i_lst ?_
  | with_reducible refine i_lstN ?_
  | with_reducible refine i_newDK ?_
  | with_reducible refine i_disp ?_
  | with_reducible refine i_pairs0 ?_
  | with_reducible refine i_pairs1 ?_
  | with_reducible refine i_call ?_
  | with_reducible refine i_cb ?_
  | with_reducible refine i_bm ?_
  | with_reducible refine i_m1 ?_
  | with_reducible refine i_m0 ?_
  | ((with_reducible refine' i_rAppend ?h ?e ?_); (case h => walk_at "hg"); (case e => walk_at "side"))
  | ((with_reducible refine i_rSlS ?h ?_); (case h => walk_at "side"))
  | ((with_reducible refine' i_rSlL ?h ?_); (case h => walk_at "sq"))
  | with_reducible refine i_sl ?_
  | with_reducible refine i_noPart ?_
  | with_reducible refine i_part ?_
  | with_reducible refine i_rng1 ?_
  | with_reducible refine i_iList ?_
  | with_reducible refine i_iStr ?_
  | ((with_reducible refine i_exrng ?h1 ?h2 ?_); (case h1 => walk_at "side"); (case h2 => walk_at "side"))
  | ((with_reducible refine' i_exl ?h ?_); (case h => walk_at "sq"))
  | with_reducible refine i_for ?_
  | with_reducible refine i_lc ?_
  | with_reducible refine i_yes ?_
  | with_reducible refine i_iteT ?_
  | with_reducible refine i_iteF ?_
  | ((with_reducible refine i_divmod ?h ?_); (case h => walk_at "side"))
  | ((with_reducible refine' i_isi ?h ?e ?_); (case h => walk_at "da"); (case e => decide))
  | ((with_reducible refine i_lenS ?h ?_); (case h => walk_at "side"))
  | ((with_reducible refine' i_lenL ?h ?_); (case h => walk_at "sq"))
  | ((with_reducible refine' i_lenT ?h ?_); (case h => walk_at "sq"))
  | ((with_reducible refine' i_repr ?h ?n ?e ?_); (case h => walk_at "da"); (case n => walk_at "nod"); (case e => walk_at "shw"))
  | ((with_reducible refine' i_rCat ?h ?e ?z ?_); (case h => walk_at "hg"); (case e => walk_at "hg"); (case z => walk_at "side"))
  | ((with_reducible refine i_rCatS ?h ?_); (case h => walk_at "side"))
  | with_reducible refine i_exstr ?_
  | ((with_reducible refine' i_join ?h ?z ?_); (case h => walk_at "sq"); (case z => walk_at "side"))
  | with_reducible refine i_abs ?_
  | with_reducible refine i_max ?_
  | with_reducible refine i_min ?_
  | ((with_reducible refine' i_rAll ?h ?_); (case h => walk_at "sq"))
  | ((with_reducible refine' i_lcEl ?h ?e ?_); (case h => walk_at "hg"); (case e => walk_at "side"))
  | with_reducible refine ⟨_, _, rfl, rfl, ?_⟩
  | with_reducible refine ⟨_, _, rfl, ?_⟩
  | with_reducible refine ⟨_, rfl, ?_⟩
  | with_reducible refine And.intro rfl ?_
  | ((with_reducible refine And.intro ?h ?_); (case h => walk_at "side"))
  | fail)

section
variable {P : Program} {w : World} {K : PySem.W.Frag} {mg : Str → Option Value} {base : Heap} {A : Ad}
def sp_l_formatted (K : PySem.W.Frag) : Sp := fun vs H Q _ => ∃ v d, vs = [v] ∧ DaS K H v d ∧
  (∀ w, winP d = some w → shortW w ∧ ∀ a H', Same H H' → H' a = some (.lst [.str "text", .str (fmtS w)]) → Q (.ref a) H') ∧
  (winB d = false → Shw d ∧ ∀ a H', Same H H' → H' a = some (.lst [.str "window", .str d.shown]) → Q (.ref a) H')
theorem ok_l_formatted (T : Txt K mg A) (G_format_window : FnOk P w K mg base (L2.CX P w) 5 A.f_format_window A.d_format_window ["window"] (sp_fmt K A.c_InvalidWindow)) : Fg P w K mg base CX0 6 A.f_l_formatted A.d_l_formatted ["_law_value"] (sp_l_formatted K) := by
  refine ok_g T.F_l_formatted sc_l_formatted (fun vs H Q E h => ?_) (fun cdv Ar outer s H vs Q E hr h => ?_)
  · obtain ⟨_, _, rfl, _⟩ := h; rfl
  · obtain ⟨v, d, rfl, hd, qy, qn⟩ := h
    refine ⟨_, (pss_cons (ps_set (i := 1) sc_l_formatted.nd rfl (.inl rfl) (pe_lst (pa_cons pe_str pa_nil)))
(pss_cons (ps_tryN (i := 2) rfl rfl sc_l_formatted.nd rfl rfl ⟨rfl, by decide, .inl T.gX_GroupError⟩ L2.takes0 (fun W1 pn1 xe1 tk1 po1 => (pss_one (ps_set (i := 1) sc_l_formatted.nd rfl (.inl rfl) (pe_lst (pa_cons pe_str (pa_cons (pe_callX G_format_window (hr.room.mono (by decide)) (by rfl) T.g_format_window T.F_format_window.kp T.b_format_window (fun σ => L2.passAt tk1 σ) (pa_cons (pv 0) pa_nil)) pa_nil))))))
(fun a1 oe1 cls1 d1 pn1 hz1 hf1 => (pss_one (ps_if (PW.pt (pw_and (pt_val (pe_callB (call_isX hz1 hf1) (by rfl) T.m_isinstance (by decide +kernel) (pa_cons (pv 2) (pa_cons (pe_glob (v := .ref A.c_InvalidWindow) rfl T.gX_InvalidWindow rfl) pa_nil)))) (pw_and1 (pt_not (pt_val (pe_callB (call_isX hz1 hf1) (by rfl) T.m_isinstance (by decide +kernel) (pa_cons (pv 2) (pa_cons (pe_glob (v := .ref A.c_InvalidText) rfl T.gX_InvalidText rfl) pa_nil))))))))
(pss_one (ps_set (i := 1) sc_l_formatted.nd rfl (.inl rfl) (pe_lst (pa_cons pe_str (pa_cons (pe_callB (call_reprS hr) (by rfl) T.m_repr (by decide +kernel) (pa_cons (pe_xfN (n := "value") hz1 hf1 (pv 2)) pa_nil)) pa_nil)))))
pss_nil))))
(pss_one (ps_ret (pv 1))))), ?_⟩
    repeat (walk_at "st")
    refine i_new fun p1 G1 n1 s1 e1 => ?_
    repeat (walk_at "st")
    refine ⟨_, _, rfl, hd.da.same s1, fun w hw => ?_, fun e c G2 hc s2 ec => ?_⟩
    · obtain ⟨z, q⟩ := qy w hw
      refine ⟨z, fun G2 s2 => ?_⟩
      repeat (walk_at "st")
      refine i_new fun p3 G3 n3 s3 e3 => ?_
      repeat (walk_at "st")
      exact q _ _ (s1.trans (s2.trans s3)) e3
    · obtain ⟨hw, q⟩ := qn e
      refine i_took (T.EX_InvalidWindow.exm T.EX_GroupError T.su_InvalidWindow_GroupError) fun x hx => ?_
      repeat (walk_at "st")
      refine i_isX T.EX_InvalidWindow T.cg rel_ref T.ki_InvalidWindow_InvalidWindow (fun dd z => by cases z; exact ⟨_, ec⟩) ?_
      repeat (walk_at "st")
      refine i_isX T.EX_InvalidWindow T.cg rel_ref T.ki_InvalidWindow_InvalidText (fun dd z => by cases z; exact ⟨_, ec⟩) ?_
      refine ⟨_, rfl, ?_⟩
      refine i_tt (by rfl) ?_
      repeat (walk_at "st")
      refine i_xfV T.EX_InvalidWindow.xf T.nf_InvalidWindow_value rfl ec rfl ?_
      repeat (walk_at "st")
      refine i_new fun p4 G4 n4 s4 e4 => ?_
      repeat (walk_at "st")
      exact q _ _ (s1.trans (s2.trans s4)) e4
def sp_l_parsed (K : PySem.W.Frag) : Sp := fun vs H Q _ => ∃ v d, vs = [v] ∧ Da K H v d ∧
  (∀ x, d = .str x → okS x 300 ∧ (winS x = none → ∀ a H', Same H H' → H' a = some (.lst [.str "line", .int 1]) → Q (.ref a) H') ∧
    ∀ w, winS x = some w → ∀ a b H', Same H H' → H' a = some (.lst [.str "window", .ref b]) → DaS K H' (.ref b) (winD w) → Q (.ref a) H') ∧
  (isi d "str" = false → ∀ a H', Same H H' → H' a = some (.lst [.str "line", .int 0]) → Q (.ref a) H')
theorem ok_l_parsed (T : Txt K mg A) (G_parse_window : FnOk P w K mg base (L2.CX P w) 5 A.f_parse_window A.d_parse_window ["text"] (sp_parsew K A.c_InvalidText)) : Fg P w K mg base CX0 6 A.f_l_parsed A.d_l_parsed ["_law_value"] (sp_l_parsed K) := by
  refine ok_g T.F_l_parsed sc_l_parsed (fun vs H Q E h => ?_) (fun cdv Ar outer s H vs Q E hr h => ?_)
  · obtain ⟨_, _, rfl, _⟩ := h; rfl
  · obtain ⟨v, d, rfl, hd, qs, qn⟩ := h
    refine ⟨_, (pss_cons (ps_set (i := 1) sc_l_parsed.nd rfl (.inl rfl) (pe_lst (pa_cons pe_str pa_nil)))
(pss_cons (ps_tryN (i := 2) rfl rfl sc_l_parsed.nd rfl rfl ⟨rfl, by decide, .inl T.gX_GroupError⟩ L2.takes0 (fun W1 pn1 xe1 tk1 po1 => (pss_one (ps_set (i := 1) sc_l_parsed.nd rfl (.inl rfl) (pe_lst (pa_cons pe_str (pa_cons (pe_callX G_parse_window (hr.room.mono (by decide)) (by rfl) T.g_parse_window T.F_parse_window.kp T.b_parse_window (fun σ => L2.passAt tk1 σ) (pa_cons (pv 0) pa_nil)) pa_nil))))))
(fun a1 oe1 cls1 d1 pn1 hz1 hf1 => (pss_one (ps_if (PW.pt (pw_and (pt_val (pe_callB (call_isX hz1 hf1) (by rfl) T.m_isinstance (by decide +kernel) (pa_cons (pv 2) (pa_cons (pe_glob (v := .ref A.c_InvalidText) rfl T.gX_InvalidText rfl) pa_nil)))) (pw_and1 (pt_not (pt_val (pe_callB (call_isX hz1 hf1) (by rfl) T.m_isinstance (by decide +kernel) (pa_cons (pv 2) (pa_cons (pe_glob (v := .ref A.c_InvalidWindow) rfl T.gX_InvalidWindow rfl) pa_nil))))))))
(pss_one (ps_set (i := 1) sc_l_parsed.nd rfl (.inl rfl) (pe_lst (pa_cons pe_str (pa_cons (pe_xfN (n := "line") hz1 hf1 (pv 2)) pa_nil)))))
pss_nil))))
(pss_one (ps_ret (pv 1))))), ?_⟩
    repeat (walk_at "st")
    refine i_new fun p1 G1 n1 s1 e1 => ?_
    repeat (walk_at "st")
    have bad : ∀ (n : Int) (c : Addr) (H' : Hp), Same G1 H' → H' c = some (.xd [("line", .int n)]) → (∀ a H', Same H H' → H' a = some (.lst [.str "line", .int n]) → Q (.ref a) H') → True := fun _ _ _ _ _ _ => trivial
    refine ⟨_, _, rfl, hd.same s1, fun x hx => ⟨(qs x hx).1, fun hw c G2 hc s2 ec => ?_, fun w hw a G2 s2 hda => ?_⟩, fun e c G2 hc s2 ec => ?_⟩
    · have q := (qs x hx).2.1 hw
      refine i_took (T.EX_InvalidText.exm T.EX_GroupError T.su_InvalidText_GroupError) fun y hy => ?_
      repeat (walk_at "st")
      refine i_isX T.EX_InvalidText T.cg rel_ref T.ki_InvalidText_InvalidText (fun dd z => by cases z; exact ⟨_, ec⟩) ?_
      repeat (walk_at "st")
      refine i_isX T.EX_InvalidText T.cg rel_ref T.ki_InvalidText_InvalidWindow (fun dd z => by cases z; exact ⟨_, ec⟩) ?_
      refine ⟨_, rfl, ?_⟩
      refine i_tt (by rfl) ?_
      repeat (walk_at "st")
      refine i_xfV T.EX_InvalidText.xf T.nf_InvalidText_line rfl ec rfl ?_
      repeat (walk_at "st")
      refine i_new fun p4 G4 n4 s4 e4 => ?_
      repeat (walk_at "st")
      exact q _ _ (s1.trans (s2.trans s4)) e4
    · repeat (walk_at "st")
      refine i_new fun p3 G3 n3 s3 e3 => ?_
      repeat (walk_at "st")
      exact (qs x hx).2.2 w hw _ _ _ (s1.trans (s2.trans s3)) e3 (hda.same s3)
    · refine i_took (T.EX_InvalidText.exm T.EX_GroupError T.su_InvalidText_GroupError) fun y hy => ?_
      repeat (walk_at "st")
      refine i_isX T.EX_InvalidText T.cg rel_ref T.ki_InvalidText_InvalidText (fun dd z => by cases z; exact ⟨_, ec⟩) ?_
      repeat (walk_at "st")
      refine i_isX T.EX_InvalidText T.cg rel_ref T.ki_InvalidText_InvalidWindow (fun dd z => by cases z; exact ⟨_, ec⟩) ?_
      refine ⟨_, rfl, ?_⟩
      refine i_tt (by rfl) ?_
      repeat (walk_at "st")
      refine i_xfV T.EX_InvalidText.xf T.nf_InvalidText_line rfl ec rfl ?_
      repeat (walk_at "st")
      refine i_new fun p4 G4 n4 s4 e4 => ?_
      repeat (walk_at "st")
      exact qn e _ _ (s1.trans (s2.trans s4)) e4
theorem val_lt : ∀ n (a : List Nat), a.length = n → dgs a → PySem.NumText.digitsVal a < 10 ^ n := by
  intro n
  induction n with
  | zero => intro a h _; rw [List.length_eq_zero_iff.mp h]; decide
  | succ n ih =>
    intro a h hd
    have hn : a ≠ [] := fun z => by rw [z] at h; cases h
    obtain ⟨b, c, rfl⟩ : ∃ b c, a = b ++ [c] := ⟨a.dropLast, a.getLast hn, (List.dropLast_concat_getLast hn).symm⟩
    have hc := hd c (by simp)
    have := ih b (by simpa using h) fun c hc => hd c (List.mem_append_left _ hc)
    rw [val_snoc, Nat.pow_succ]
    omega
theorem pnum_short {x : Str} {i : Int} (h : pnum x = some i) : i.natAbs < 2 ^ 200 := by
  unfold pnum at h
  split at h
  · next c =>
    simp only [Bool.and_eq_true, decide_eq_true_eq] at c
    split at h
    · cases h
      have l := val_lt _ x.cps.toList rfl (digs_iff.mp c.2)
      have m : 10 ^ x.cps.toList.length ≤ 10 ^ 60 := Nat.pow_le_pow_right (by decide) (show x.length ≤ 60 from c.1.2)
      unfold valS
      rw [Int.natAbs_natCast]
      exact Nat.lt_of_lt_of_le l (Nat.le_trans m (by decide +kernel))
    · cases h
  · cases h
theorem winS_short {x : Str} {w : Int × Option Int} (h : winS x = some w) : shortW w := by
  unfold winS at h
  split at h
  · next a b _ =>
    cases hl : pnum a with
    | none => rw [hl] at h; cases h
    | some l =>
      have sl := pnum_short hl
      cases hk : pnum b with
      | none =>
        rw [hl, hk] at h
        unfold winAB at h
        dsimp only at h
        split at h
        · cases h; exact ⟨sl, fun k e => nomatch e⟩
        · cases h
      | some k =>
        rw [hl, hk] at h
        unfold winAB at h
        dsimp only at h
        split at h
        · cases h; exact ⟨sl, fun k e => by cases e; exact pnum_short hk⟩
        · cases h
  · cases h
theorem sh_win {w : Int × Option Int} (h : shortW w) : Sh (winD w) 5000 1 := by
  obtain ⟨l, hi⟩ := w
  have g1 : l.natAbs.log2 < 1920 := log_of h.1
  refine (Sh.tup (ds := [.int l, hiD hi]) (n := 1921) (k := 0) fun d hd => ?_).mono (by show 2 * 1923 + 3 ≤ _; decide) (by decide)
  simp only [List.mem_cons, List.not_mem_nil, or_false] at hd
  rcases hd with rfl | rfl
  · exact Sh.int g1
  · cases hi with
    | none => exact Sh.non.mono (by decide) (by decide)
    | some k => exact Sh.int (log_of (h.2 k rfl))
theorem nd_told {w : Int × Option Int} : PyData.hasDict (.list [.str "window", winD w]) = false := by
  obtain ⟨l, hi⟩ := w
  cases hi <;> rfl
theorem sh_told {w : Int × Option Int} (h : shortW w) : Shw (.list [.str "window", winD w]) := by
  refine (Sh.lst (ds := [.str "window", winD w]) (n := 5000) (k := 1) fun d hd => ?_).shw (by show 2 * 5002 + 2 ≤ _; decide) (by decide)
  simp only [List.mem_cons, List.not_mem_nil, or_false] at hd
  rcases hd with rfl | rfl
  · have hs : Sh (.str "window") 8 0 := ⟨by decide +kernel, by decide +kernel, by decide +kernel⟩
    exact hs.mono (by decide) (by decide)
  · exact sh_win h
def sp_l_right (K : PySem.W.Frag) : Sp := fun vs H Q _ => ∃ x, vs = [.str x] ∧ okS x 300 ∧ goodL (TL.tl x) ∧ ∀ H', Same H H' → Q (.bl true) H'
theorem ok_l_string_right (T : Txt K mg A) (G_l_read : Fg P w K mg base CX0 2 A.f_l_read A.d_l_read ["_law_text_here"] (sp_l_read K)) (G_l_parsed : Fg P w K mg base CX0 6 A.f_l_parsed A.d_l_parsed ["_law_value"] (sp_l_parsed K)) (G_format_window : FnOk P w K mg base (L2.CX P w) 5 A.f_format_window A.d_format_window ["window"] (sp_fmt K A.c_InvalidWindow)) : Fg P w K mg base CX0 7 A.f_l_string_right A.d_l_string_right ["_law_text_here"] (sp_l_right K) := by
  refine ok_g T.F_l_string_right sc_l_string_right (fun vs H Q E h => ?_) (fun cdv Ar outer s H vs Q E hr h => ?_)
  · obtain ⟨_, rfl, _⟩ := h; rfl
  · obtain ⟨x, rfl, hx, hg, q⟩ := h
    refine ⟨_, (pss_cons (ps_set (i := 1) sc_l_string_right.nd rfl (.inl rfl) (pe_call G_l_read (hr.mono (by decide)) (by rfl) T.g_l_read T.F_l_read.kp T.b_l_read .nil pass0 (pa_cons (pv 0) pa_nil)))
(pss_cons (ps_set (i := 2) sc_l_string_right.nd rfl (.inl rfl) (pe_ifExp (pt_cmpR op_isNN (pv 1) pe_non (nomark _)) (pe_lst (pa_cons pe_str (pa_cons pe_int pa_nil))) (pe_lst (pa_cons pe_str (pa_cons (pv 1) pa_nil)))))
(pss_cons (ps_if (pt_cmpR op_ne (pe_callB (call_reprN (hr.mono (by decide))) (by rfl) T.m_repr (by decide +kernel) (pa_cons (pe_call G_l_parsed (hr.mono (by decide)) (by rfl) T.g_l_parsed T.F_l_parsed.kp T.b_l_parsed .nil pass0 (pa_cons (pv 0) pa_nil)) pa_nil)) (pe_callB (call_reprN (hr.mono (by decide))) (by rfl) T.m_repr (by decide +kernel) (pa_cons (pv 2) pa_nil)) (nomark _))
(pss_one (ps_ret pe_bl))
pss_nil)
(pss_one (ps_ret (pe_or (pe_cmpR op_isNN (pv 1) pe_non (nomark _)) (pe_one (pe_cmpR op_eq (L2.pe_call G_format_window (hr.room.mono (by decide)) (by rfl) T.g_format_window T.F_format_window.kp T.b_format_window .nil passL (pa_cons (pv 1) pa_nil)) (pv 0) (nomark _))))))))), ?_⟩
    have re := read_eq hg
    have s3' : Shw (.list [.str "line", .int 1]) := ⟨by decide +kernel, by decide +kernel, by decide +kernel⟩
    repeat (walk_at "st")
    refine ⟨_, rfl, hx, fun hn G1 s1 => ?_, fun w hw a G1 s1 hda => ?_⟩
    · rw [hn] at re
      repeat (walk_at "st")
      refine i_tt (by rfl) ?_
      repeat (walk_at "st")
      refine i_new fun p2 G2 n2 s2 e2 => ?_
      repeat (walk_at "st")
      refine ⟨_, _, rfl, .str x, fun y z => ?_, fun z => by cases z⟩
      cases z
      refine ⟨hx, fun _ a G3 s3 e3 => ?_, fun w hw => by rw [re] at hw; cases hw⟩
      have e2' := s3 _ _ e2
      repeat (walk_at "st")
      refine i_tt (by rfl) ?_
      repeat (walk_at "st")
      exact q _ (s1.trans (s2.trans s3))
    · rw [hw] at re
      have sw := winS_short re
      repeat (walk_at "st")
      refine i_ff (by rfl) ?_
      repeat (walk_at "st")
      refine i_new fun p2 G2 n2 s2 e2 => ?_
      repeat (walk_at "st")
      refine ⟨_, _, rfl, .str x, fun y z => ?_, fun z => by cases z⟩
      cases z
      refine ⟨hx, (fun z => by rw [re] at z; cases z), fun w' hw' b c G3 s3 e3 hc => ?_⟩
      rw [re] at hw'
      cases hw'
      have e2' := s3 _ _ e2
      have hd1 := (hda.same (s2.trans s3)).da
      have hc1 := hc.da
      have sh := sh_told sw
      have nd := nd_told (w := w)
      repeat (walk_at "st")
      refine i_repr (Da.lst (SqL.of e3) (.cons (.str _) (.cons hc1 .nil))) (.inr nd) sh ?_
      repeat (walk_at "st")
      refine i_repr (Da.lst (SqL.of e2') (.cons (.str _) (.cons hd1 .nil))) (.inr nd) sh ?_
      repeat (walk_at "st")
      refine i_ff (by rfl) ?_
      repeat (walk_at "st")
      refine ⟨_, _, rfl, hd1, fun w' hw' => ?_, fun z => ?_⟩
      · rw [winP_D (winS_ok re)] at hw'
        cases hw'
        refine ⟨sw, fun G4 s4 => ?_⟩
        have ex : fmtS w = x := TL.ext_tl (by rw [fmtW_tl (winS_ok re), fmt_read hw])
        rw [ex]
        repeat (walk_at "st")
        exact q _ (s1.trans (s2.trans (s3.trans s4)))
      · unfold winB at z
        rw [winP_D (winS_ok re)] at z
        cases z
end
end KX

namespace KX
open PySem PySem.Spec PyProof.Rows L2

local macro_rules | `(tactic| walk_at "kp") => `(tactic| first
  | with_reducible exact Kp.refl
  | with_reducible exact Kp.thenS (by assumption) (by walk_at "kp")
  | with_reducible exact Kp.thenO (by assumption) (by walk_at "ne") (by walk_at "kp")
  | fail)
local macro_rules | `(tactic| walk_at "hq") => `(tactic| first
  | assumption
  | with_reducible exact Kp.get (by assumption) (by walk_at "kp")
  | fail)
local macro_rules | `(tactic| walk_at "hg") => `(tactic| first
  | walk_at "hq"
  | exact upd_same
  | with_reducible exact (upd_ne (by walk_at "ne")).trans (by walk_at "hg")
  | with_reducible exact Same.get (by assumption) (by walk_at "hg")
  | with_reducible exact Off.get (by assumption) (by walk_at "ne") (by walk_at "hg")
  | fail)
local macro_rules | `(tactic| walk_at "ne") => `(tactic| first
  | assumption
  | (apply Ne.symm; assumption)
  | exact Rok.ne' (by assumption) (by walk_at "rok")
  | exact (Rok.ne' (by assumption) (by walk_at "rok")).symm
  | exact ne_some (by assumption) (by walk_at "hg")
  | exact (ne_some (by assumption) (by walk_at "hg")).symm
  | fail)
local macro_rules | `(tactic| walk_at "rok") => `(tactic| first
  | assumption
  | with_reducible exact Rok.kp (by assumption) (by walk_at "kp")
  | with_reducible exact Rok.same (by assumption) (by walk_at "rok")
  | fail)
local macro_rules | `(tactic| walk_at "sq") => `(tactic| first
  | assumption
  | with_reducible exact SqL.of (by walk_at "hg")
  | with_reducible exact SqT.of (by walk_at "hg")
  | fail)
local macro_rules | `(tactic| walk_at "dac") => `(tactic| first
  | assumption
  | exact DaF.same (by assumption) (by walk_at "dac")
  | fail)
local macro_rules | `(tactic| walk_at "da") => `(tactic| first
  | exact (DaF.non : DaS _ _ _ _)
  | exact (DaF.bl _ : DaS _ _ _ _)
  | exact (DaF.int _ : DaS _ _ _ _)
  | exact (DaF.str _ : DaS _ _ _ _)
  | exact DaF.non
  | exact DaF.bl _
  | exact DaF.int _
  | exact DaF.str _
  | walk_at "dac"
  | with_reducible exact DaF.lst (SqL.of (by walk_at "hq")) (fun _ => by assumption) (by walk_at "das")
  | with_reducible exact Da.lst (SqL.of (by walk_at "hq")) (by walk_at "das")
  | with_reducible exact DaF.tup (SqT.of (by walk_at "hq")) (by walk_at "das")
  | with_reducible exact DaF.dic (Rd.of (by walk_at "hq")) (by walk_at "dak")
  | fail)
local macro_rules | `(tactic| walk_at "das") => `(tactic| first
  | assumption
  | exact DaAllF.nil
  | exact DaAllF.cons (by walk_at "da") (by walk_at "das")
  | fail)
local macro_rules | `(tactic| walk_at "dak") => `(tactic| first
  | assumption
  | exact DaKvF.nil
  | exact DaKvF.cons (by walk_at "da") (by walk_at "dak")
  | fail)
local macro_rules | `(tactic| walk_at "shw") => `(tactic| first
  | assumption
  | exact shw_b2 _ _
  | exact ⟨by decide +kernel, by decide +kernel, by decide +kernel⟩
  | fail)
local macro_rules | `(tactic| walk_at "nod") => `(tactic| first
  | exact .inl rfl
  | exact .inr rfl
  | assumption
  | exact .inr (by assumption)
  | fail)
local macro_rules | `(tactic| walk_at "okd") => `(tactic| first
  | assumption
  | exact okd_of (by decide +kernel)
  | fail)
local macro_rules | `(tactic| walk_at "off") => `(tactic| first
  | assumption
  | exact Off.refl _ _
  | exact Same.refl _
  | with_reducible exact Same.thenS (by assumption) (by walk_at "off")
  | with_reducible exact Off.thenS (by assumption) (by walk_at "off")
  | with_reducible exact Off.thenO (by assumption) (by walk_at "off")
  | with_reducible exact Same.thenF (by assumption) (by assumption) (by walk_at "off") (by walk_at "off")
  | with_reducible exact Off.thenF (by assumption) (by assumption) (by walk_at "off") (by walk_at "off")
  | fail)
local macro_rules | `(tactic| walk_at "side") => `(tactic| first
  | assumption
  | omega
  | decide
  | (simp only [List.length_cons, List.length_nil]; decide)
  | exact ⟨by omega, by omega⟩
  | exact ⟨by omega, PyProof.noPylong_of_log2 (by first | assumption | decide)⟩
  | exact .inl ⟨by omega, by omega⟩
  | exact .inr ⟨by omega, by omega⟩
  | exact ⟨by decide, by decide, by decide⟩
  | exact ⟨by decide, by decide, by omega⟩
  | fail)
local macro_rules | `(tactic| walk_at "st") => `(tactic| first
  | with_reducible refine i_seq ?_
  | with_reducible refine i_bi ?_
  | with_reducible refine i_raise ?_
  | with_reducible refine i_callX ?_
  | with_reducible refine i_tryN ?_
  | with_reducible refine i_isNon ?_
  | with_reducible refine i_isNotNon ?_
  | ((with_reducible refine' i_split ?h ?z ?_); (case h => rfl); (case z => walk_at "side"))
  | with_reducible refine i_find ?_
  | ((with_reducible refine i_strI ?h ?_); (case h => walk_at "side"))
  | with_reducible refine i_fmt ?_
  | ((with_reducible refine i_fmS ?h ?_); (case h => walk_at "side"))
  | ((with_reducible refine i_fmI ?h ?_); (case h => walk_at "side"))
  | with_reducible refine i_jn ?_
  | with_reducible refine i_js0 ?_
  | with_reducible refine i_js1 ?_
  | ((with_reducible refine i_jsR ?h ?_); (case h => walk_at "side"))
  | with_reducible refine i_revS ?_
  | ((with_reducible refine i_exrev ?h ?_); (case h => walk_at "side"))
  | with_reducible refine i_revL ?_
  | ((with_reducible refine' i_exrevL ?h ?_); (case h => walk_at "sq"))
  | with_reducible refine i_par3 ?_
  | with_reducible refine i_ex3 ?_
  | with_reducible refine i_stB ?_
  | with_reducible refine i_mk0 ?_
  | with_reducible refine i_asg ?_
  | with_reducible refine i_c ?_
  | ((with_reducible refine' i_var ?h ?_); (case h => rfl))
  | with_reducible refine i_op ?_
  | with_reducible refine i_cons ?_
  | with_reducible refine i_nil ?_
  | ((with_reducible refine' i_gName ?h ?_); (case h => rfl))
  | with_reducible refine i_rI0 ?_
  | ((with_reducible refine i_rI ?h ?_); (case h => walk_at "side"))
  | with_reducible refine i_test ?_
  | with_reducible refine i_exbl ?_
  | with_reducible refine i_exint ?_
  | with_reducible refine i_exs ?_
  | with_reducible refine i_ret ?_
  | with_reducible refine i_next ?_
  | with_reducible refine i_ifS ?_
  | ((with_reducible refine' i_rIxL ?h ?e ?_); (case h => walk_at "sq"); (case e => first | assumption | rfl))
  | ((with_reducible refine' i_rIxT ?h ?e ?_); (case h => walk_at "sq"); (case e => first | assumption | rfl))
  | ((with_reducible refine' i_rIxS ?h ?e ?_); (case h => walk_at "side"); (case e => first | assumption | rfl))
  | with_reducible refine i_un ?_
  | with_reducible refine i_rU ?_
  | ((with_reducible refine i_rEqSame ?h ?_); (case h => rfl))
  | ((with_reducible refine i_rNeSame ?h ?_); (case h => rfl))
  | ((with_reducible refine i_rEq ?h ?_); (case h => rfl))
  | ((with_reducible refine i_rNe ?h ?_); (case h => rfl))
  | with_reducible refine i_tB ?_
  | with_reducible refine i_and ?_
  | with_reducible refine i_or ?_
  | with_reducible refine i_not ?_
  | with_reducible refine i_andV ?_
  | with_reducible refine i_orV ?_
  | with_reducible refine i_notV ?_
  | with_reducible refine i_if ?_
  | with_reducible refine i_chain ?_
  | with_reducible refine i_drop ?_
  | with_reducible refine i_retN ?_
  | with_reducible refine i_par ?_
  | with_reducible refine i_ex2 ?_
  | ((with_reducible refine' i_aug ?h ?_); (case h => rfl))
  | with_reducible refine i_gNil ?_
  | with_reducible refine i_gCons ?_
  | ((with_reducible refine' i_gTup ?h ?e ?_); (case h => walk_at "sq"); (case e => rfl))
  | with_reducible refine i_gSub ?_
  | ((with_reducible refine' i_rSetL ?h ?e ?_); (case h => walk_at "hg"); (case e => first | assumption | rfl))
  | with_reducible refine i_tup ?_
  | with_reducible refine i_lst ?_
  | with_reducible refine i_lstN ?_
  | with_reducible refine i_newDK ?_
  | with_reducible refine i_disp ?_
  | with_reducible refine i_pairs0 ?_
  | with_reducible refine i_pairs1 ?_
  | with_reducible refine i_call ?_
  | with_reducible refine i_cb ?_
  | with_reducible refine i_bm ?_
  | with_reducible refine i_m1 ?_
  | with_reducible refine i_m0 ?_
  | ((with_reducible refine' i_rAppend ?h ?e ?_); (case h => walk_at "hg"); (case e => walk_at "side"))
  | ((with_reducible refine i_rSlS ?h ?_); (case h => walk_at "side"))
  | ((with_reducible refine' i_rSlL ?h ?_); (case h => walk_at "sq"))
  | with_reducible refine i_sl ?_
  | with_reducible refine i_noPart ?_
  | with_reducible refine i_part ?_
  | with_reducible refine i_rng1 ?_
  | with_reducible refine i_iList ?_
  | with_reducible refine i_iStr ?_
  | ((with_reducible refine i_exrng ?h1 ?h2 ?_); (case h1 => walk_at "side"); (case h2 => walk_at "side"))
  | ((with_reducible refine' i_exl ?h ?_); (case h => walk_at "sq"))
  | with_reducible refine i_for ?_
  | with_reducible refine i_lc ?_
  | with_reducible refine i_yes ?_
  | with_reducible refine i_iteT ?_
  | with_reducible refine i_iteF ?_
  | ((with_reducible refine i_divmod ?h ?_); (case h => walk_at "side"))
  | ((with_reducible refine' i_isi ?h ?e ?_); (case h => walk_at "da"); (case e => decide))
  | ((with_reducible refine i_lenS ?h ?_); (case h => walk_at "side"))
  | ((with_reducible refine' i_lenL ?h ?_); (case h => walk_at "sq"))
  | ((with_reducible refine' i_lenT ?h ?_); (case h => walk_at "sq"))
  | ((with_reducible refine' i_repr ?h ?n ?e ?_); (case h => walk_at "da"); (case n => walk_at "nod"); (case e => walk_at "shw"))
  | ((with_reducible refine' i_rCat ?h ?e ?z ?_); (case h => walk_at "hg"); (case e => walk_at "hg"); (case z => walk_at "side"))
  | ((with_reducible refine i_rCatS ?h ?_); (case h => walk_at "side"))
  | with_reducible refine i_exstr ?_
  | ((with_reducible refine' i_join ?h ?z ?_); (case h => walk_at "sq"); (case z => walk_at "side"))
  | with_reducible refine i_abs ?_
  | with_reducible refine i_max ?_
  | with_reducible refine i_min ?_
  | ((with_reducible refine' i_rAll ?h ?_); (case h => walk_at "sq"))
  | ((with_reducible refine' i_lcEl ?h ?e ?_); (case h => walk_at "hg"); (case e => walk_at "side"))
  | with_reducible refine ⟨_, _, rfl, rfl, ?_⟩
  | with_reducible refine ⟨_, _, rfl, ?_⟩
  | with_reducible refine ⟨_, rfl, ?_⟩
  | with_reducible refine And.intro rfl ?_
  | ((with_reducible refine And.intro ?h ?_); (case h => walk_at "side"))
  | fail)

section
variable {P : Program} {w : World} {K : PySem.W.Frag} {mg : Str → Option Value} {base : Heap} {A : Ad}
theorem numL_len' {i : Int} {k : Nat} (hk : 0 < k) (h0 : 0 ≤ i) (h : i < 10 ^ k) : (TL.numL i.toNat).length ≤ k := by
  refine TL.numL_len hk ?_
  have e : ((10 : Int) ^ k) = ((10 ^ k : Nat) : Int) := by simp
  rw [e] at h
  omega
/-- windows whose bounds have at most k digits -/
structure Dig (k : Nat) (w : Int × Option Int) : Prop where
  ok : okW w
  lo : w.1 < 10 ^ k
  hi : ∀ h, w.2 = some h → h < 10 ^ k
theorem Dig.tail {k : Nat} {w : Int × Option Int} (h : Dig k w) (hk : 0 < k) : (tailL w.2).length ≤ k := by
  obtain ⟨l, o⟩ := w
  cases o with
  | none => exact Nat.zero_le _
  | some z =>
    have := h.ok.2 z rfl
    have l0 := h.ok.1
    exact numL_len' hk (by dsimp only at *; omega) (h.hi z rfl)
theorem dgs_tail (o : Option Int) : dgs (tailL o) := by
  cases o with
  | none => intro c hc; cases hc
  | some z => exact TL.numL_digits _
theorem Dig.short {k : Nat} {w : Int × Option Int} (h : Dig k w) (hk : k ≤ 60) : shortW w := by
  have e : (10 : Int) ^ k ≤ 10 ^ 60 := by
    have := Nat.pow_le_pow_right (n := 10) (by decide) hk
    exact_mod_cast this
  have e2 : (10 : Int) ^ 60 < 2 ^ 200 := by decide +kernel
  have e3 : (2 : Int) ^ 200 = ((2 ^ 200 : Nat) : Int) := by decide +kernel
  obtain ⟨ok, lo, hi⟩ := h
  refine ⟨?_, fun z hz => ?_⟩
  · have := ok.1
    generalize (2 : Nat) ^ 200 = m at *
    generalize (10 : Int) ^ 60 = n at *
    omega
  · have := ok.1
    have := ok.2 z hz
    have := hi z hz
    generalize (2 : Nat) ^ 200 = m at *
    generalize (10 : Int) ^ 60 = n at *
    omega
theorem Dig.okS {k : Nat} {w : Int × Option Int} (h : Dig k w) (hk : 0 < k) : okS (fmtS w) (2 * k + 2) := by
  have e := fmtW_tl h.ok
  refine ⟨?_, fun c hc => ?_⟩
  · have e1 : (fmtS w).length = (TL.tl (fmtS w)).length := rfl
    have l1 := numL_len' hk h.ok.1 h.lo
    have l2 := h.tail hk
    rw [e1, e]
    unfold fmtL
    simp only [List.length_append, List.length_cons, List.length_nil]
    omega
  · have hc : c ∈ TL.tl (fmtS w) := hc
    rw [e] at hc
    unfold fmtL at hc
    rcases List.mem_append.mp hc with hc | hc
    · rcases List.mem_append.mp hc with hc | hc
      · have := TL.numL_digits _ c hc; omega
      · simp at hc; omega
    · have := dgs_tail _ c hc; omega
theorem Dig.good {k : Nat} {w : Int × Option Int} (h : Dig k w) (hk : 0 < k) (k60 : k ≤ 60) : goodL (TL.tl (fmtS w)) := by
  rw [fmtW_tl h.ok]
  exact (((fmt_two (numL_len' hk h.ok.1 h.lo) (h.tail hk)).run hk).mono k60).good
theorem Dig.st0 {w : Int × Option Int} (h : Dig 56 w) : St0 (TL.tl (fmtS w)) := by
  rw [fmtW_tl h.ok]
  exact ⟨_, _, rfl, numL_len' (by decide) h.ok.1 h.lo, h.tail (by decide), TL.numL_digits _, dgs_tail _⟩
theorem Dig.read {k : Nat} {w : Int × Option Int} (h : Dig k w) (hk : 0 < k) (k60 : k ≤ 60) : winS (fmtS w) = some w := by
  rw [read_eq (h.good hk k60)]
  exact read_fmt h.ok (fmtW_tl h.ok)
def StN : Nat → List Nat → Prop
  | 0, L => St0 L
  | 1, L => St1 L
  | _, L => goodL L
theorem StN.good {i : Nat} {L : List Nat} (h : StN i L) : goodL L := by
  match i, h with
  | 0, h => exact St0.good h
  | 1, h => exact St1.good h
  | _ + 2, h => exact h
theorem StN.step {i : Nat} {L L' : List Nat} (hi : i < 2) (h : StN i L) (c : Chg L L') : StN (i + 1) L' := by
  match i, hi, h with
  | 0, _, h => exact St0.step h c
  | 1, _, h => exact St1.step h c
theorem strOk_text : PyData.strOk (Str.ofString "text") = true := by decide +kernel
theorem shaped_text {x : Str} {n : Nat} (h : okS x n) : SeqAt.shaped (.list [.str "text", .str x]) = true := by
  unfold SeqAt.shaped
  simp [PyData.canLay0, PyData.canLayAll0, PyData.depth, PyData.depthAll, strOk_of h, strOk_text]
theorem nd_win {w : Int × Option Int} : PyData.hasDict (winD w) = false := by
  obtain ⟨l, hi⟩ := w
  cases hi <;> rfl
theorem shaped_win {w : Int × Option Int} : SeqAt.shaped (winD w) = true := by
  obtain ⟨l, hi⟩ := w
  cases hi <;> (unfold SeqAt.shaped; simp [winD, hiD, PyData.canLay0, PyData.canLayAll0, PyData.depth, PyData.depthAll])
/-! ### the law's written values -/
def oddL : List PyData := [.none, .int 0, .str "0..1", .list [.int 0, .int 1], .tuple [.int 0], .tuple [.int 0, .int 1, .int 2], .tuple [.int 1, .int 0], .tuple [.bool true, .int 1], .tuple [.int 0, .bool true],
  .tuple [.int (-1), .int 1], .tuple [.int 0, .str "1"], .dict [], .tuple []]
def oddB (d : PyData) : Bool := !winB d && d.showable && decide (d.depth ≤ 20) && decide (d.shown.length ≤ 1000) && SeqAt.shaped (.list [.str "window", .str d.shown])
def wrong1 : List PyData := [.str "", .str ".", .str "..", .str "...", .str "..1", .str "1.", .str "0...", .str "1..2..3", .str "0..0 ", .str " 0..0", .str "0..0\n", .str "00..1"]
def wrong2 : List PyData := [.str "0..01", .str "5..4"]
theorem odd_all : oddL.all oddB = true := by decide +kernel
theorem odd_of {d : PyData} (h : oddB d = true) : winB d = false ∧ Shw d ∧ SeqAt.shaped (.list [.str "window", .str d.shown]) = true := by
  unfold oddB at h
  simp only [Bool.and_eq_true, Bool.not_eq_true', decide_eq_true_eq] at h
  obtain ⟨⟨⟨⟨h1, h2⟩, h3⟩, h4⟩, h5⟩ := h
  exact ⟨h1, ⟨h2, h3, by rw [sizeLine_eq]; omega⟩, h5⟩
def wrongB : PyData → Bool
  | .str x => decide (x.length ≤ 60) && x.cps.toList.all (fun c => decide (c < 1114112)) && (lread x).isNone
  | _ => false
theorem wrong_of {d : PyData} (h : wrongB d = true) : ∃ x, d = .str x ∧ okS x 300 ∧ winS x = none := by
  unfold wrongB at h
  split at h
  · next x =>
    simp only [Bool.and_eq_true, decide_eq_true_eq, List.all_eq_true, Option.isNone_iff_eq_none] at h
    obtain ⟨⟨h1, h2⟩, h3⟩ := h
    refine ⟨x, rfl, ⟨by omega, h2⟩, ?_⟩
    rw [read_eq (Run.len (L := TL.tl x) h1).good, h3]
  · cases h
theorem wrong_all1 : wrong1.all wrongB = true := by decide +kernel
theorem wrong_all2 : wrong2.all wrongB = true := by decide +kernel
def sp_law (K : PySem.W.Frag) : Sp := fun vs H Q _ => ∃ (s : Addr) (ns : List Int), vs = [.ref s] ∧ SqL K H s (ns.map V.int) ∧ ns.length ≤ 63 ∧ ∀ H', Q (.bl true) H'
theorem rangeV_item {lo : Int} {n i : Nat} {x : V} (h : (rangeV lo n)[i]? = some x) : ∃ k : Int, x = .int (lo + k) ∧ 0 ≤ k ∧ k < n := by
  have hi : i < n := by
    have := (List.getElem?_eq_some_iff.mp h).1
    rwa [rangeV_len] at this
  rw [rangeV_get hi] at h
  cases h
  exact ⟨i, rfl, by omega, by omega⟩
theorem ok_law (T : Txt K mg A) : Fg P w K mg base CX0 8 A.f_law A.d_law ["_law_script"] (sp_law K) := by
  have G_l_draw := ok_l_draw (P := P) (w := w) (base := base) T
  have G_l_rng := ok_l_rng (P := P) (w := w) (base := base) T
  have G_InvalidWindowx_initx := ok_InvalidWindowx_initx (P := P) (w := w) (base := base) T
  have G_InvalidTextx_initx := ok_InvalidTextx_initx (P := P) (w := w) (base := base) T
  have G_is_integer := ok_is_integer (P := P) (w := w) (base := base) T
  have G_is_version := ok_is_version T G_is_integer
  have G_is_window := ok_is_window T G_is_version
  have G_require_window := ok_require_window T G_is_window G_InvalidWindowx_initx
  have G_format_window := ok_format_window T G_require_window
  have G_parse_number := ok_parse_number (P := P) (w := w) (base := base) T
  have G_window_in := ok_window_in T G_parse_number G_is_window
  have G_parse_window := ok_parse_window T G_window_in G_InvalidTextx_initx
  have G_l_text := ok_l_text (P := P) (w := w) (base := base) T
  have G_l_number := ok_l_number (P := P) (w := w) (base := base) T
  have G_l_read := ok_l_read T G_l_number
  have G_l_window := ok_l_window T G_l_draw
  have G_l_changed := ok_l_changed T G_l_draw
  have G_l_formatted := ok_l_formatted T G_format_window
  have G_l_parsed := ok_l_parsed T G_parse_window
  have G_l_string_right := ok_l_string_right T G_l_read G_l_parsed G_format_window
  refine ok_g T.F_law sc_law (fun vs H Q E h => ?_) (fun cdv Ar outer s H vs Q E hr h => ?_)
  · obtain ⟨_, _, rfl, _⟩ := h; rfl
  · obtain ⟨sc, ns, rfl, hS, hl, q⟩ := h
    refine ⟨_, (pss_cons (ps_for PassesOwn.never rfl (pi_range1 rfl T.m_range (pa_cons (pe_callB (call_max2 rfl) (by rfl) T.m_max (by decide +kernel) (pa_cons pe_int (pa_cons (pe_callB (call_min2 rfl) (by rfl) T.m_min (by decide +kernel) (pa_cons pe_int (pa_cons (pe_callB call_lenN (by rfl) T.m_len (by decide +kernel) (pa_cons (pv 0) pa_nil)) pa_nil))) pa_nil))) pa_nil)) (pg_name (i := 1) sc_law.nd rfl (.inl rfl))
(pss_cons (ps_set (i := 2) sc_law.nd rfl (.inl rfl) (pe_call G_l_rng (hr.mono (by decide)) (by rfl) T.g_l_rng T.F_l_rng.kp T.b_l_rng .nil pass0 (pa_cons (pv 0) (pa_cons (pv 1) pa_nil))))
(pss_cons (ps_for PassesOwn.never rfl (pi_range1 rfl T.m_range (pa_cons pe_int pa_nil)) (pg_name (i := 3) sc_law.nd rfl (.inl rfl))
(pss_cons (ps_set (i := 4) sc_law.nd rfl (.inl rfl) (pe_call G_l_window (hr.mono (by decide)) (by rfl) T.g_l_window T.F_l_window.kp T.b_l_window .nil pass0 (pa_cons (pv 2) pa_nil)))
(pss_cons (ps_set (i := 5) sc_law.nd rfl (.inl rfl) (pe_call G_l_text (hr.mono (by decide)) (by rfl) T.g_l_text T.F_l_text.kp T.b_l_text .nil pass0 (pa_cons (pv 4) pa_nil)))
(pss_cons (ps_if (PW.pt (pw_or (pt_cmpR (op_neD hr.room.units) (pe_call G_l_formatted (hr.mono (by decide)) (by rfl) T.g_l_formatted T.F_l_formatted.kp T.b_l_formatted .nil pass0 (pa_cons (pv 4) pa_nil)) (pe_lst (pa_cons pe_str (pa_cons (pv 5) pa_nil))) (nomark _)) (pw_or1 (pt_cmpR op_ne (pe_callB (call_reprN (hr.mono (by decide))) (by rfl) T.m_repr (by decide +kernel) (pa_cons (pe_call G_l_parsed (hr.mono (by decide)) (by rfl) T.g_l_parsed T.F_l_parsed.kp T.b_l_parsed .nil pass0 (pa_cons (pv 5) pa_nil)) pa_nil)) (pe_callB (call_reprN (hr.mono (by decide))) (by rfl) T.m_repr (by decide +kernel) (pa_cons (pe_lst (pa_cons pe_str (pa_cons (pv 4) pa_nil))) pa_nil)) (nomark _)))))
(pss_one (ps_ret pe_bl))
pss_nil)
(pss_cons (ps_for PassesOwn.never rfl (pi_range1 rfl T.m_range (pa_cons (pe_op op_add pe_int (pe_call G_l_draw (hr.mono (by decide)) (by rfl) T.g_l_draw T.F_l_draw.kp T.b_l_draw .nil pass0 (pa_cons (pv 2) (pa_cons pe_int pa_nil)))) pa_nil)) (pg_name (i := 6) sc_law.nd rfl (.inl rfl))
(pss_one (ps_set (i := 5) sc_law.nd rfl (.inl rfl) (pe_call G_l_changed (hr.mono (by decide)) (by rfl) T.g_l_changed T.F_l_changed.kp T.b_l_changed .nil pass0 (pa_cons (pv 2) (pa_cons (pv 5) pa_nil))))))
(pss_one (ps_if (pt_not (pt_val (pe_call G_l_string_right (hr.mono (by decide)) (by rfl) T.g_l_string_right T.F_l_string_right.kp T.b_l_string_right .nil pass0 (pa_cons (pv 5) pa_nil))))
(pss_one (ps_ret pe_bl))
pss_nil)))))))
(pss_cons (ps_for PassesOwn.never rfl (pi_list (pe_litL (LitAll.cons (Lit.tup (LitAll.cons (Lit.sub (Lit.pow Lit.int Lit.int (by decide) (by decide) (by decide)) Lit.int) (LitAll.cons Lit.non LitAll.nil)) (by decide)) (LitAll.cons (Lit.tup (LitAll.cons Lit.int (LitAll.cons (Lit.sub (Lit.pow Lit.int Lit.int (by decide) (by decide) (by decide)) Lit.int) LitAll.nil)) (by decide)) LitAll.nil)) (by decide))) (pg_name (i := 4) sc_law.nd rfl (.inl rfl))
(pss_one (ps_if (PW.pt (pw_or (pt_cmpR op_ne (L2.pe_call G_format_window (hr.room.mono (by decide)) (by rfl) T.g_format_window T.F_format_window.kp T.b_format_window .nil passL (pa_cons (pv 4) pa_nil)) (pe_call G_l_text (hr.mono (by decide)) (by rfl) T.g_l_text T.F_l_text.kp T.b_l_text .nil pass0 (pa_cons (pv 4) pa_nil)) (nomark _)) (pw_or1 (pt_cmpR (op_neD hr.room.units) (L2.pe_call G_parse_window (hr.room.mono (by decide)) (by rfl) T.g_parse_window T.F_parse_window.kp T.b_parse_window .nil passL (pa_cons (pe_call G_l_text (hr.mono (by decide)) (by rfl) T.g_l_text T.F_l_text.kp T.b_l_text .nil pass0 (pa_cons (pv 4) pa_nil)) pa_nil)) (pv 4) (nomark _)))))
(pss_one (ps_ret pe_bl))
pss_nil)))
(pss_cons (ps_for PassesOwn.never rfl (pi_list (pe_litL (LitAll.cons Lit.non (LitAll.cons Lit.int (LitAll.cons Lit.bl (LitAll.cons (Lit.tup LitAll.nil (by decide)) (LitAll.cons (Lit.lst LitAll.nil (by decide)) (LitAll.cons Lit.dic0 (LitAll.cons (Lit.lst (LitAll.cons (Lit.tup (LitAll.cons Lit.int (LitAll.cons Lit.int LitAll.nil)) (by decide)) LitAll.nil) (by decide)) (LitAll.cons (Lit.tup (LitAll.cons Lit.str LitAll.nil) (by decide)) (LitAll.cons (Lit.tup (LitAll.cons Lit.int (LitAll.cons Lit.int LitAll.nil)) (by decide)) LitAll.nil))))))))) (by decide))) (pg_name (i := 7) sc_law.nd rfl (.inl rfl))
(pss_one (ps_if (pt_cmpR (op_neD hr.room.units) (pe_call G_l_parsed (hr.mono (by decide)) (by rfl) T.g_l_parsed T.F_l_parsed.kp T.b_l_parsed .nil pass0 (pa_cons (pv 7) pa_nil)) (pe_lst (pa_cons pe_str (pa_cons pe_int pa_nil))) (nomark _))
(pss_one (ps_ret pe_bl))
pss_nil)))
(pss_cons (ps_set (i := 8) sc_law.nd rfl (.inl rfl) (pe_litL (LitAll.cons Lit.non (LitAll.cons Lit.int (LitAll.cons Lit.str (LitAll.cons (Lit.lst (LitAll.cons Lit.int (LitAll.cons Lit.int LitAll.nil)) (by decide)) (LitAll.cons (Lit.tup (LitAll.cons Lit.int LitAll.nil) (by decide)) (LitAll.cons (Lit.tup (LitAll.cons Lit.int (LitAll.cons Lit.int (LitAll.cons Lit.int LitAll.nil))) (by decide)) (LitAll.cons (Lit.tup (LitAll.cons Lit.int (LitAll.cons Lit.int LitAll.nil)) (by decide)) (LitAll.cons (Lit.tup (LitAll.cons Lit.bl (LitAll.cons Lit.int LitAll.nil)) (by decide)) (LitAll.cons (Lit.tup (LitAll.cons Lit.int (LitAll.cons Lit.bl LitAll.nil)) (by decide)) (LitAll.cons (Lit.tup (LitAll.cons Lit.neg (LitAll.cons Lit.int LitAll.nil)) (by decide)) (LitAll.cons (Lit.tup (LitAll.cons Lit.int (LitAll.cons Lit.str LitAll.nil)) (by decide)) (LitAll.cons Lit.dic0 (LitAll.cons (Lit.tup LitAll.nil (by decide)) LitAll.nil))))))))))))) (by decide)))
(pss_cons (ps_for PassesOwn.never rfl (pi_list (pv 8)) (pg_name (i := 7) sc_law.nd rfl (.inl rfl))
(pss_one (ps_if (pt_cmpR (op_neD hr.room.units) (pe_call G_l_formatted (hr.mono (by decide)) (by rfl) T.g_l_formatted T.F_l_formatted.kp T.b_l_formatted .nil pass0 (pa_cons (pv 7) pa_nil)) (pe_lst (pa_cons pe_str (pa_cons (pe_callB (call_reprN (hr.mono (by decide))) (by rfl) T.m_repr (by decide +kernel) (pa_cons (pv 7) pa_nil)) pa_nil))) (nomark _))
(pss_one (ps_ret pe_bl))
pss_nil)))
(pss_cons (ps_set (i := 9) sc_law.nd rfl (.inl rfl) (pe_litL (LitAll.cons Lit.str (LitAll.cons Lit.str (LitAll.cons Lit.str (LitAll.cons Lit.str (LitAll.cons Lit.str (LitAll.cons Lit.str (LitAll.cons Lit.str (LitAll.cons Lit.str (LitAll.cons Lit.str (LitAll.cons Lit.str (LitAll.cons Lit.str (LitAll.cons Lit.str LitAll.nil)))))))))))) (by decide)))
(pss_one (ps_for PassesOwn.never rfl (pi_list (pe_op op_cat (pv 9) (pe_litL (LitAll.cons Lit.str (LitAll.cons Lit.str LitAll.nil)) (by decide)))) (pg_name (i := 5) sc_law.nd rfl (.inl rfl))
(pss_one (ps_if (pt_cmpR (op_neD hr.room.units) (pe_call G_l_parsed (hr.mono (by decide)) (by rfl) T.g_l_parsed T.F_l_parsed.kp T.b_l_parsed .nil pass0 (pa_cons (pv 5) pa_nil)) (pe_lst (pa_cons pe_str (pa_cons pe_int pa_nil))) (nomark _))
(pss_one (ps_ret pe_bl))
pss_nil))))))))))))
(pss_one (ps_ret pe_bl))), ?_⟩
    have hz : ns.length ≤ sizeLine := Nat.le_trans hl (by decide)
    repeat (walk_at "st")
    have p60 : (10 : Int) ^ 56 < 10 ^ 60 := by decide +kernel
    refine f_wk wk_range (fun i σ H' => Same H H' ∧ ∃ y1 y2 y3 y4 y5 y6 y7 y8 y9, σ = [some (.ref sc), y1, y2, y3, y4, y5, y6, y7, y8, y9]) ⟨Same.refl _, _, _, _, _, _, _, _, _, _, rfl⟩ (fun _ _ _ _ => trivial) (fun i x σ H' hx h => ?_) (fun σ H' h => ?_)
    · obtain ⟨sH, y1, y2, y3, y4, y5, y6, y7, y8, y9, rfl⟩ := h
      obtain ⟨k, rfl, hk⟩ := rangeV_item hx
      repeat (walk_at "st")
      refine ⟨_, _, _, rfl, sH.seq hS, by omega, by (revert hk; split <;> split <;> omega), hl, fun p G1 n1 r1 s1 => ?_⟩
      repeat (walk_at "st")
      refine f_wk wk_range (fun i σ H2 => Off p G1 H2 ∧ Rok H2 p ∧ ∃ y3 y4 y5 y6 y7 y8 y9, σ = [some (.ref sc), some (.int (0 + k)), some (.ref p), y3, y4, y5, y6, y7, y8, y9]) ⟨Off.refl _ _, r1, _, _, _, _, _, _, _, rfl⟩ (fun _ _ _ _ => trivial) (fun i2 x2 σ H2 hx2 h2 => ?_) (fun σ H2 h2 => ?_)
      · obtain ⟨o2, r2, y3, y4, y5, y6, y7, y8, y9, rfl⟩ := h2
        repeat (walk_at "st")
        refine ⟨_, rfl, r2, fun a w' G3 ok3 lo3 hi3 hd3 r3 o3 => ?_⟩
        have dg3 : Dig 56 w' := ⟨ok3, Int.lt_trans lo3 (by decide +kernel), hi3⟩
        have sh3 := dg3.short (by decide)
        have hd3' := hd3.same wo_same
        repeat (walk_at "st")
        refine ⟨_, _, rfl, hd3'.da, sh3, fun G4 s4 => ?_⟩
        repeat (walk_at "st")
        have ok4 := dg3.okS (by decide)
        refine ⟨_, _, rfl, hd3'.same s4, fun w2 hw2 => ⟨?_, fun a5 G5 s5 e5 => ?_⟩, fun z => ?_⟩
        · rw [winP_D ok3] at hw2; cases hw2; exact sh3
        · rw [winP_D ok3] at hw2
          cases hw2
          repeat (walk_at "st")
          refine i_new fun p6 G6 n6 s6 e6 => ?_
          refine i_neDsame (Da.lst (SqL.of (s6 _ _ e5)) (.cons (.str _) (.cons (.str _) .nil))) (Da.lst (SqL.of e6) (.cons (.str _) (.cons (.str _) .nil))) rfl (shaped_text ok4) ?_
          repeat (walk_at "st")
          refine ⟨_, _, rfl, .str _, fun x hx => ?_, fun z => by cases z⟩
          cases hx
          refine ⟨ok4.mono (by decide), fun z => (by rw [dg3.read (by decide) (by decide)] at z; cases z), fun w2 hw2 a7 b7 G7 s7 e7 hd7 => ?_⟩
          rw [dg3.read (by decide) (by decide)] at hw2
          cases hw2
          have nd := nd_told (w := w')
          have sh := sh_told sh3
          repeat (walk_at "st")
          refine i_repr (Da.lst (SqL.of e7) (.cons (.str _) (.cons hd7.da .nil))) (.inr nd) sh ?_
          repeat (walk_at "st")
          refine i_new fun p8 G8 n8 s8 e8 => ?_
          repeat (walk_at "st")
          have hd8 := (hd3'.same (s4.trans (s5.trans (s6.trans (s7.trans s8))))).da
          refine i_repr (Da.lst (SqL.of e8) (.cons (.str _) (.cons hd8 .nil))) (.inr nd) sh ?_
          repeat (walk_at "st")
          have o8 : Off p G1 G8 := by walk_at "off"
          have r8 : Rok G8 p := by walk_at "rok"
          refine ⟨_, _, rfl, (by walk_at "side"), (by first | decide | decide +kernel | assumption), (by walk_at "rok"), fun d9 G9 dl9 dh9 r9 o9 => ?_⟩
          repeat (walk_at "st")
          refine f_wk wk_range (fun i σ H9 => Off p G1 H9 ∧ Rok H9 p ∧ ∃ y3 y4 x y6 y7 y8 y9, okS x (114 + i) ∧ StN i (TL.tl x) ∧ σ = [some (.ref sc), some (.int (0 + k)), some (.ref p), y3, y4, some (.str x), y6, y7, y8, y9]) ⟨by walk_at "off", r9, _, _, _, _, _, _, _, ok4, dg3.st0, rfl⟩ (fun _ _ _ _ => trivial) (fun i10 x10 σ H9 hx10 h9 => ?_) (fun σ H9 h9 => ?_)
          · obtain ⟨o10, r10, y3, y4, x, y6, y7, y8, y9, ok10, st10, rfl⟩ := h9
            have i10' : i10 < 2 := by
              have := (List.getElem?_eq_some_iff.mp hx10).1
              rw [rangeV_len] at this
              omega
            repeat (walk_at "st")
            refine ⟨_, _, _, rfl, ok10, by omega, r10, fun y G11 hc ok11 r11 o11 => ?_⟩
            repeat (walk_at "st")
            exact ⟨by walk_at "off", r11, _, _, _, _, _, _, _, ok11, st10.step i10' hc, rfl⟩
          · obtain ⟨o10, r10, y3, y4, x, y6, y7, y8, y9, ok10, st10, rfl⟩ := h9
            rw [rangeV_len] at ok10
            repeat (walk_at "st")
            refine ⟨_, rfl, ok10.mono (by omega), st10.good, fun G11 s11 => ?_⟩
            repeat (walk_at "st")
            exact ⟨by walk_at "off", by walk_at "rok", _, _, _, _, _, _, _, rfl⟩
        · unfold winB at z
          rw [winP_D ok3] at z
          cases z
      · obtain ⟨o2, r2, y3, y4, y5, y6, y7, y8, y9, rfl⟩ := h2
        have sA : Same H H2 := sH.trans (Off.new n1 s1 o2)
        repeat (walk_at "st")
        refine i_litL fun p3 xs3 G3 n3 z3 s3 e3 d3 => ?_
        repeat (walk_at "st")
        refine ⟨⟨_, SqL.of e3⟩, ?_⟩
        refine f_wk wk_list (fun i σ H3 => Same G3 H3 ∧ ∃ y3 y4 y5 y6 y7 y8 y9, σ = [some (.ref sc), some (.int (0 + k)), some (.ref p), y3, y4, y5, y6, y7, y8, y9]) ⟨Same.refl _, _, _, _, _, _, _, _, rfl⟩ (fun i σ H3 h => SqL.of (h.1 _ _ e3)) (fun i4 x4 σ H3 hx4 h3 => ?_) (fun σ H3 h3 => ?_)
        · obtain ⟨sB, y3, y4, y5, y6, y7, y8, y9, rfl⟩ := h3
          obtain ⟨d, hd, hda⟩ := d3.mem x4 (List.mem_of_getElem? hx4)
          have hw : ∃ w, d = winD w ∧ Dig 60 w := by
            have z60 : (10 : Int) ^ Int.toNat 60 = 1000000000000000000000000000000000000000000000000000000000000 := by decide +kernel
            have y60 : (10 : Int) ^ 60 = 1000000000000000000000000000000000000000000000000000000000000 := by decide +kernel
            simp only [List.mem_cons, List.not_mem_nil, or_false, z60] at hd
            rcases hd with rfl | rfl
            · exact ⟨(_, none), rfl, ⟨by dsimp only; omega, (fun _ z => by cases z)⟩, by rw [y60]; dsimp only; omega, (fun _ z => by cases z)⟩
            · exact ⟨(0, some _), rfl, ⟨by dsimp only; omega, (fun _ z => by cases z; dsimp only; omega)⟩, by rw [y60]; dsimp only; omega, (fun _ z => by cases z; rw [y60]; omega)⟩
          obtain ⟨w', rfl, dg⟩ := hw
          have hda := (hda.same newP_same).same sB
          have sh := dg.short (by decide)
          repeat (walk_at "st")
          refine ⟨_, _, rfl, hda.da, fun w2 hw2 => ?_, fun z => ?_⟩
          · rw [winP_D dg.ok] at hw2
            cases hw2
            refine ⟨sh, fun G5 s5 => ?_⟩
            repeat (walk_at "st")
            refine ⟨_, _, rfl, (hda.same s5).da, sh, fun G6 s6 => ?_⟩
            repeat (walk_at "st")
            refine ⟨_, _, rfl, (hda.same (s5.trans s6)).da, sh, fun G7 s7 => ?_⟩
            repeat (walk_at "st")
            refine ⟨_, _, rfl, .str _, fun x hx => ?_, fun z => by cases z⟩
            cases hx
            refine ⟨(dg.okS (by decide)).mono (by decide), fun z => (by rw [dg.read (by decide) (by decide)] at z; cases z), fun w2 hw2 a8 G8 s8 hd8 => ?_⟩
            rw [dg.read (by decide) (by decide)] at hw2
            cases hw2
            repeat (walk_at "st")
            refine i_neDsame hd8.da (hda.same (s5.trans (s6.trans (s7.trans s8)))).da nd_win shaped_win ?_
            repeat (walk_at "st")
            exact ⟨by walk_at "off", _, _, _, _, _, _, _, rfl⟩
          · unfold winB at z
            rw [winP_D dg.ok] at z
            cases z
        · obtain ⟨sB, y3, y4, y5, y6, y7, y8, y9, rfl⟩ := h3
          repeat (walk_at "st")
          refine i_litL fun p4 xs4 G4 n4 z4 s4 e4 d4 => ?_
          repeat (walk_at "st")
          refine ⟨⟨_, SqL.of e4⟩, ?_⟩
          refine f_wk wk_list (fun i σ H3 => Same G4 H3 ∧ ∃ y3 y4 y5 y6 y7 y8 y9, σ = [some (.ref sc), some (.int (0 + k)), some (.ref p), y3, y4, y5, y6, y7, y8, y9]) ⟨Same.refl _, _, _, _, _, _, _, _, rfl⟩ (fun i σ H3 h => SqL.of (h.1 _ _ e4)) (fun i5 x5 σ H4 hx5 h4 => ?_) (fun σ H4 h4 => ?_)
          · obtain ⟨sC, y3, y4, y5, y6, y7, y8, y9, rfl⟩ := h4
            obtain ⟨d, hd, hda⟩ := d4.mem x5 (List.mem_of_getElem? hx5)
            have hda := (hda.same newP_same).same sC
            have hstr : isi d "str" = false := by
              refine List.all_eq_true.mp (?_ : List.all _ (fun d => isi d "str" == false) = true) d hd |> beq_iff_eq.mp
              decide +kernel
            repeat (walk_at "st")
            refine ⟨_, _, rfl, hda.da, fun x hx => (by rw [hx] at hstr; cases hstr), fun _ a6 G6 s6 e6 => ?_⟩
            repeat (walk_at "st")
            refine i_new fun p7 G7 n7 s7 e7 => ?_
            refine i_neDsame (Da.lst (SqL.of (s7 _ _ e6)) (.cons (.str _) (.cons (.int _) .nil))) (Da.lst (SqL.of e7) (.cons (.str _) (.cons (.int _) .nil))) rfl (by decide +kernel) ?_
            repeat (walk_at "st")
            exact ⟨by walk_at "off", _, _, _, _, _, _, _, rfl⟩
          · obtain ⟨sC, y3, y4, y5, y6, y7, y8, y9, rfl⟩ := h4
            repeat (walk_at "st")
            refine i_litL fun p5 xs5 G5 n5 z5 s5 e5 d5 => ?_
            repeat (walk_at "st")
            refine ⟨⟨_, SqL.of e5⟩, ?_⟩
            refine f_wk wk_list (fun i σ H3 => Same G5 H3 ∧ ∃ y3 y4 y5 y6 y7 y8 y9, σ = [some (.ref sc), some (.int (0 + k)), some (.ref p), y3, y4, y5, y6, y7, y8, y9]) ⟨Same.refl _, _, _, _, _, _, _, _, rfl⟩ (fun i σ H3 h => SqL.of (h.1 _ _ e5)) (fun i6 x6 σ H5 hx6 h5 => ?_) (fun σ H5 h5 => ?_)
            · obtain ⟨sD, y3, y4, y5, y6, y7, y8, y9, rfl⟩ := h5
              obtain ⟨d, hd, hda⟩ := d5.mem x6 (List.mem_of_getElem? hx6)
              have hda := (hda.same newP_same).same sD
              have hodd := List.all_eq_true.mp odd_all d hd
              obtain ⟨o1, o2, o3⟩ := odd_of hodd
              repeat (walk_at "st")
              refine ⟨_, _, rfl, hda, fun w2 hw2 => (by unfold winB at o1; rw [hw2] at o1; cases o1), fun _ => ⟨o2, fun a7 G7 s7 e7 => ?_⟩⟩
              repeat (walk_at "st")
              refine i_new fun p8 G8 n8 s8 e8 => ?_
              refine i_neDsame (Da.lst (SqL.of (s8 _ _ e7)) (.cons (.str _) (.cons (.str _) .nil))) (Da.lst (SqL.of e8) (.cons (.str _) (.cons (.str _) .nil))) rfl o3 ?_
              repeat (walk_at "st")
              exact ⟨by walk_at "off", _, _, _, _, _, _, _, rfl⟩
            · obtain ⟨sD, y3, y4, y5, y6, y7, y8, y9, rfl⟩ := h5
              repeat (walk_at "st")
              refine i_litL fun p6 xs6 G6 n6 z6 s6 e6 d6 => ?_
              repeat (walk_at "st")
              refine i_litL fun p7 xs7 G7 n7 z7 s7 e7 d7 => ?_
              repeat (walk_at "st")
              have l6 : xs6.length = 12 := d6.len
              have l7 : xs7.length = 2 := d7.len
              refine i_rCat (s7 _ _ e6) e7 (by rw [l6, l7, sizeLine_eq]; decide) ?_
              refine i_new fun p8 G8 n8 s8 e8 => ?_
              repeat (walk_at "st")
              refine ⟨⟨_, SqL.of e8⟩, ?_⟩
              refine f_wk wk_list (fun i σ H3 => Same G8 H3 ∧ ∃ y3 y4 y5 y6 y7 y8 y9, σ = [some (.ref sc), some (.int (0 + k)), some (.ref p), y3, y4, y5, y6, y7, y8, y9]) ⟨Same.refl _, _, _, _, _, _, _, _, rfl⟩ (fun i σ H3 h => SqL.of (h.1 _ _ e8)) (fun i9 x9 σ H6 hx9 h6 => ?_) (fun σ H6 h6 => ?_)
              · obtain ⟨sE, y3, y4, y5, y6, y7, y8, y9, rfl⟩ := h6
                have hw : ∃ d, wrongB d = true ∧ DaS K H6 x9 d := by
                  rcases List.mem_append.mp (List.mem_of_getElem? hx9) with hm | hm
                  · obtain ⟨d, hd, hda⟩ := d6.mem x9 hm
                    exact ⟨d, List.all_eq_true.mp wrong_all1 d hd, (hda.same newP_same).same (s7.trans (s8.trans sE))⟩
                  · obtain ⟨d, hd, hda⟩ := d7.mem x9 hm
                    exact ⟨d, List.all_eq_true.mp wrong_all2 d hd, (hda.same newP_same).same (s8.trans sE)⟩
                obtain ⟨d, hd, hda⟩ := hw
                obtain ⟨x, rfl, okx, nox⟩ := wrong_of hd
                cases hda
                repeat (walk_at "st")
                refine ⟨_, _, rfl, .str _, fun x hx => ?_, fun z => by cases z⟩
                cases hx
                refine ⟨okx, fun _ a10 G10 s10 e10 => ?_, fun w hw => (by rw [nox] at hw; cases hw)⟩
                repeat (walk_at "st")
                refine i_new fun p11 G11 n11 s11 e11 => ?_
                refine i_neDsame (Da.lst (SqL.of (s11 _ _ e10)) (.cons (.str _) (.cons (.int _) .nil))) (Da.lst (SqL.of e11) (.cons (.str _) (.cons (.int _) .nil))) rfl (by decide +kernel) ?_
                repeat (walk_at "st")
                exact ⟨by walk_at "off", _, _, _, _, _, _, _, rfl⟩
              · obtain ⟨sE, y3, y4, y5, y6, y7, y8, y9, rfl⟩ := h6
                exact ⟨sA.trans (s3.trans (sB.trans (s4.trans (sC.trans (s5.trans (sD.trans (s6.trans (s7.trans (s8.trans sE))))))))), _, _, _, _, _, _, _, _, _, rfl⟩
    · obtain ⟨sH, y1, y2, y3, y4, y5, y6, y7, y8, y9, rfl⟩ := h
      repeat (walk_at "st")
      exact q _
theorem sp_law_of {K : PySem.W.Frag} {H : Hp} {a : Addr} {ns : List Int} (hl : ns.length ≤ 63) (_ : ∀ z ∈ ns, Builtin.Int.intBits z ≤ 1048576) (hS : SqL K H a (ns.map V.int)) : sp_law K [.ref a] H (fun v _ => v = .bl true) fun _ _ _ => False := ⟨a, ns, rfl, hS, hl, fun _ => rfl⟩
theorem all_mk {l : PySem.W.OpenLaw} {w : World} {K : PySem.W.Frag} {h : Heap} {mg : Str → Option Value} {fa : Addr} (X : K.In h) (G : h.Ns mainGlobals mg) (hfa : mg "law" = some (.ref fa))
    {f0 : Addr} {od0 an0 : Option Addr} {sl0 : Array (Option Value)} {oc0 kV0 dc0 pm0 cd0 ct0 : Value}
    {f1 : Addr} {od1 an1 : Option Addr} {sl1 : Array (Option Value)} {oc1 kV1 dc1 pm1 cd1 ct1 : Value}
    {f2 : Addr} {od2 an2 : Option Addr} {sl2 : Array (Option Value)} {oc2 kV2 dc2 pm2 cd2 ct2 : Value}
    {f3 : Addr} {od3 an3 : Option Addr} {sl3 : Array (Option Value)} {oc3 kV3 dc3 pm3 cd3 ct3 : Value}
    {f4 : Addr} {od4 an4 : Option Addr} {sl4 : Array (Option Value)} {oc4 kV4 dc4 pm4 cd4 ct4 : Value}
    {f5 : Addr} {od5 an5 : Option Addr} {sl5 : Array (Option Value)} {oc5 kV5 dc5 pm5 cd5 ct5 : Value}
    {f6 : Addr} {od6 an6 : Option Addr} {sl6 : Array (Option Value)} {oc6 kV6 dc6 pm6 cd6 ct6 : Value}
    {f7 : Addr} {od7 an7 : Option Addr} {sl7 : Array (Option Value)} {oc7 kV7 dc7 pm7 cd7 ct7 : Value}
    {f8 : Addr} {od8 an8 : Option Addr} {sl8 : Array (Option Value)} {oc8 kV8 dc8 pm8 cd8 ct8 : Value}
    {f9 : Addr} {od9 an9 : Option Addr} {sl9 : Array (Option Value)} {oc9 kV9 dc9 pm9 cd9 ct9 : Value}
    {f10 : Addr} {od10 an10 : Option Addr} {sl10 : Array (Option Value)} {oc10 kV10 dc10 pm10 cd10 ct10 : Value}
    {f11 : Addr} {od11 an11 : Option Addr} {sl11 : Array (Option Value)} {oc11 kV11 dc11 pm11 cd11 ct11 : Value}
    {f12 : Addr} {od12 an12 : Option Addr} {sl12 : Array (Option Value)} {oc12 kV12 dc12 pm12 cd12 ct12 : Value}
    {f13 : Addr} {od13 an13 : Option Addr} {sl13 : Array (Option Value)} {oc13 kV13 dc13 pm13 cd13 ct13 : Value}
    {f14 : Addr} {od14 an14 : Option Addr} {sl14 : Array (Option Value)} {oc14 kV14 dc14 pm14 cd14 ct14 : Value}
    {f15 : Addr} {od15 an15 : Option Addr} {sl15 : Array (Option Value)} {oc15 kV15 dc15 pm15 cd15 ct15 : Value}
    {f16 : Addr} {od16 an16 : Option Addr} {sl16 : Array (Option Value)} {oc16 kV16 dc16 pm16 cd16 ct16 : Value}
    {f17 : Addr} {od17 an17 : Option Addr} {sl17 : Array (Option Value)} {oc17 kV17 dc17 pm17 cd17 ct17 : Value}
    {f18 : Addr} {od18 an18 : Option Addr} {sl18 : Array (Option Value)} {oc18 kV18 dc18 pm18 cd18 ct18 : Value}
    {f19 : Addr} {od19 an19 : Option Addr} {sl19 : Array (Option Value)} {oc19 kV19 dc19 pm19 cd19 ct19 : Value}
    {f20 : Addr} {od20 an20 : Option Addr} {sl20 : Array (Option Value)} {oc20 kV20 dc20 pm20 cd20 ct20 : Value}
    {t_DIGITS : Tok}
    {t_MAX_DIGITS : Tok}
    {t_DOTS : Tok}
    {k_GroupError : Addr} (qX_GroupError : PySem.W.nsIn K mainGlobals "GroupError" = some (some (.ref k_GroupError)))
    {k_InvalidWindow : Addr} (qX_InvalidWindow : PySem.W.nsIn K mainGlobals "InvalidWindow" = some (some (.ref k_InvalidWindow)))
    {k_InvalidText : Addr} (qX_InvalidText : PySem.W.nsIn K mainGlobals "InvalidText" = some (some (.ref k_InvalidText)))
    (a0 : PySem.W.findIn K (.ref k_InvalidWindow) "__init__" = some (some (.ref f0)))
    (l0 : K.lookup f0 = some ⟨oc0, od0, .func (PySem.W.fnOf "__init__" "InvalidWindow.__init__" (defArgs s_InvalidWindowx_initx) (defBody s_InvalidWindowx_initx) (defScope s_InvalidWindowx_initx) .none kV0 dc0 pm0 an0 cd0 ct0), sl0⟩) (c0 : PySem.W.codeIn K cd0 "InvalidWindow.__init__" = true) (k0 : PySem.W.keepIn K (.ref f0) = true)
    (a1 : PySem.W.findIn K (.ref k_InvalidText) "__init__" = some (some (.ref f1)))
    (l1 : K.lookup f1 = some ⟨oc1, od1, .func (PySem.W.fnOf "__init__" "InvalidText.__init__" (defArgs s_InvalidTextx_initx) (defBody s_InvalidTextx_initx) (defScope s_InvalidTextx_initx) .none kV1 dc1 pm1 an1 cd1 ct1), sl1⟩) (c1 : PySem.W.codeIn K cd1 "InvalidText.__init__" = true) (k1 : PySem.W.keepIn K (.ref f1) = true)
    (a2 : PySem.W.nsIn K mainGlobals "is_integer" = some (some (.ref f2)))
    (l2 : K.lookup f2 = some ⟨oc2, od2, .func (PySem.W.fnOf "is_integer" "is_integer" (defArgs s_is_integer) (defBody s_is_integer) (defScope s_is_integer) .none kV2 dc2 pm2 an2 cd2 ct2), sl2⟩) (c2 : PySem.W.codeIn K cd2 "is_integer" = true) (k2 : PySem.W.keepIn K (.ref f2) = true)
    (a3 : PySem.W.nsIn K mainGlobals "is_version" = some (some (.ref f3)))
    (l3 : K.lookup f3 = some ⟨oc3, od3, .func (PySem.W.fnOf "is_version" "is_version" (defArgs s_is_version) (defBody s_is_version) (defScope s_is_version) .none kV3 dc3 pm3 an3 cd3 ct3), sl3⟩) (c3 : PySem.W.codeIn K cd3 "is_version" = true) (k3 : PySem.W.keepIn K (.ref f3) = true)
    (a4 : PySem.W.nsIn K mainGlobals "parse_number" = some (some (.ref f4)))
    (l4 : K.lookup f4 = some ⟨oc4, od4, .func (PySem.W.fnOf "parse_number" "parse_number" (defArgs s_parse_number) (defBody s_parse_number) (defScope s_parse_number) .none kV4 dc4 pm4 an4 cd4 ct4), sl4⟩) (c4 : PySem.W.codeIn K cd4 "parse_number" = true) (k4 : PySem.W.keepIn K (.ref f4) = true)
    (a5 : PySem.W.nsIn K mainGlobals "is_window" = some (some (.ref f5)))
    (l5 : K.lookup f5 = some ⟨oc5, od5, .func (PySem.W.fnOf "is_window" "is_window" (defArgs s_is_window) (defBody s_is_window) (defScope s_is_window) .none kV5 dc5 pm5 an5 cd5 ct5), sl5⟩) (c5 : PySem.W.codeIn K cd5 "is_window" = true) (k5 : PySem.W.keepIn K (.ref f5) = true)
    (a6 : PySem.W.nsIn K mainGlobals "require_window" = some (some (.ref f6)))
    (l6 : K.lookup f6 = some ⟨oc6, od6, .func (PySem.W.fnOf "require_window" "require_window" (defArgs s_require_window) (defBody s_require_window) (defScope s_require_window) .none kV6 dc6 pm6 an6 cd6 ct6), sl6⟩) (c6 : PySem.W.codeIn K cd6 "require_window" = true) (k6 : PySem.W.keepIn K (.ref f6) = true)
    (a7 : PySem.W.nsIn K mainGlobals "format_window" = some (some (.ref f7)))
    (l7 : K.lookup f7 = some ⟨oc7, od7, .func (PySem.W.fnOf "format_window" "format_window" (defArgs s_format_window) (defBody s_format_window) (defScope s_format_window) .none kV7 dc7 pm7 an7 cd7 ct7), sl7⟩) (c7 : PySem.W.codeIn K cd7 "format_window" = true) (k7 : PySem.W.keepIn K (.ref f7) = true)
    (a8 : PySem.W.nsIn K mainGlobals "window_in" = some (some (.ref f8)))
    (l8 : K.lookup f8 = some ⟨oc8, od8, .func (PySem.W.fnOf "window_in" "window_in" (defArgs s_window_in) (defBody s_window_in) (defScope s_window_in) .none kV8 dc8 pm8 an8 cd8 ct8), sl8⟩) (c8 : PySem.W.codeIn K cd8 "window_in" = true) (k8 : PySem.W.keepIn K (.ref f8) = true)
    (a9 : PySem.W.nsIn K mainGlobals "parse_window" = some (some (.ref f9)))
    (l9 : K.lookup f9 = some ⟨oc9, od9, .func (PySem.W.fnOf "parse_window" "parse_window" (defArgs s_parse_window) (defBody s_parse_window) (defScope s_parse_window) .none kV9 dc9 pm9 an9 cd9 ct9), sl9⟩) (c9 : PySem.W.codeIn K cd9 "parse_window" = true) (k9 : PySem.W.keepIn K (.ref f9) = true)
    (a10 : PySem.W.nsIn K mainGlobals "_law_rng" = some (some (.ref f10)))
    (l10 : K.lookup f10 = some ⟨oc10, od10, .func (PySem.W.fnOf "_law_rng" "_law_rng" (defArgs s_l_rng) (defBody s_l_rng) (defScope s_l_rng) .none kV10 dc10 pm10 an10 cd10 ct10), sl10⟩) (c10 : PySem.W.codeIn K cd10 "_law_rng" = true) (k10 : PySem.W.keepIn K (.ref f10) = true)
    (a11 : PySem.W.nsIn K mainGlobals "_law_draw" = some (some (.ref f11)))
    (l11 : K.lookup f11 = some ⟨oc11, od11, .func (PySem.W.fnOf "_law_draw" "_law_draw" (defArgs s_l_draw) (defBody s_l_draw) (defScope s_l_draw) .none kV11 dc11 pm11 an11 cd11 ct11), sl11⟩) (c11 : PySem.W.codeIn K cd11 "_law_draw" = true) (k11 : PySem.W.keepIn K (.ref f11) = true)
    (a12 : PySem.W.nsIn K mainGlobals "_law_text" = some (some (.ref f12)))
    (l12 : K.lookup f12 = some ⟨oc12, od12, .func (PySem.W.fnOf "_law_text" "_law_text" (defArgs s_l_text) (defBody s_l_text) (defScope s_l_text) .none kV12 dc12 pm12 an12 cd12 ct12), sl12⟩) (c12 : PySem.W.codeIn K cd12 "_law_text" = true) (k12 : PySem.W.keepIn K (.ref f12) = true)
    (a13 : PySem.W.nsIn K mainGlobals "_law_number" = some (some (.ref f13)))
    (l13 : K.lookup f13 = some ⟨oc13, od13, .func (PySem.W.fnOf "_law_number" "_law_number" (defArgs s_l_number) (defBody s_l_number) (defScope s_l_number) .none kV13 dc13 pm13 an13 cd13 ct13), sl13⟩) (c13 : PySem.W.codeIn K cd13 "_law_number" = true) (k13 : PySem.W.keepIn K (.ref f13) = true)
    (a14 : PySem.W.nsIn K mainGlobals "_law_read" = some (some (.ref f14)))
    (l14 : K.lookup f14 = some ⟨oc14, od14, .func (PySem.W.fnOf "_law_read" "_law_read" (defArgs s_l_read) (defBody s_l_read) (defScope s_l_read) .none kV14 dc14 pm14 an14 cd14 ct14), sl14⟩) (c14 : PySem.W.codeIn K cd14 "_law_read" = true) (k14 : PySem.W.keepIn K (.ref f14) = true)
    (a15 : PySem.W.nsIn K mainGlobals "_law_window" = some (some (.ref f15)))
    (l15 : K.lookup f15 = some ⟨oc15, od15, .func (PySem.W.fnOf "_law_window" "_law_window" (defArgs s_l_window) (defBody s_l_window) (defScope s_l_window) .none kV15 dc15 pm15 an15 cd15 ct15), sl15⟩) (c15 : PySem.W.codeIn K cd15 "_law_window" = true) (k15 : PySem.W.keepIn K (.ref f15) = true)
    (a16 : PySem.W.nsIn K mainGlobals "_law_changed" = some (some (.ref f16)))
    (l16 : K.lookup f16 = some ⟨oc16, od16, .func (PySem.W.fnOf "_law_changed" "_law_changed" (defArgs s_l_changed) (defBody s_l_changed) (defScope s_l_changed) .none kV16 dc16 pm16 an16 cd16 ct16), sl16⟩) (c16 : PySem.W.codeIn K cd16 "_law_changed" = true) (k16 : PySem.W.keepIn K (.ref f16) = true)
    (a17 : PySem.W.nsIn K mainGlobals "_law_formatted" = some (some (.ref f17)))
    (l17 : K.lookup f17 = some ⟨oc17, od17, .func (PySem.W.fnOf "_law_formatted" "_law_formatted" (defArgs s_l_formatted) (defBody s_l_formatted) (defScope s_l_formatted) .none kV17 dc17 pm17 an17 cd17 ct17), sl17⟩) (c17 : PySem.W.codeIn K cd17 "_law_formatted" = true) (k17 : PySem.W.keepIn K (.ref f17) = true)
    (a18 : PySem.W.nsIn K mainGlobals "_law_parsed" = some (some (.ref f18)))
    (l18 : K.lookup f18 = some ⟨oc18, od18, .func (PySem.W.fnOf "_law_parsed" "_law_parsed" (defArgs s_l_parsed) (defBody s_l_parsed) (defScope s_l_parsed) .none kV18 dc18 pm18 an18 cd18 ct18), sl18⟩) (c18 : PySem.W.codeIn K cd18 "_law_parsed" = true) (k18 : PySem.W.keepIn K (.ref f18) = true)
    (a19 : PySem.W.nsIn K mainGlobals "_law_string_right" = some (some (.ref f19)))
    (l19 : K.lookup f19 = some ⟨oc19, od19, .func (PySem.W.fnOf "_law_string_right" "_law_string_right" (defArgs s_l_string_right) (defBody s_l_string_right) (defScope s_l_string_right) .none kV19 dc19 pm19 an19 cd19 ct19), sl19⟩) (c19 : PySem.W.codeIn K cd19 "_law_string_right" = true) (k19 : PySem.W.keepIn K (.ref f19) = true)
    (a20 : PySem.W.nsIn K mainGlobals "law" = some (some (.ref f20)))
    (l20 : K.lookup f20 = some ⟨oc20, od20, .func (PySem.W.fnOf "law" "law" (defArgs s_law) (defBody s_law) (defScope s_law) .none kV20 dc20 pm20 an20 cd20 ct20), sl20⟩) (c20 : PySem.W.codeIn K cd20 "law" = true) (k20 : PySem.W.keepIn K (.ref f20) = true)
    (q_DIGITS : PySem.W.nsIn K mainGlobals "DIGITS" = some (some (.str "0123456789" t_DIGITS)))
    (q_MAX_DIGITS : PySem.W.nsIn K mainGlobals "MAX_DIGITS" = some (some (.int (60) t_MAX_DIGITS)))
    (q_DOTS : PySem.W.nsIn K mainGlobals "DOTS" = some (some (.str ".." t_DOTS)))
    (z_abs : PySem.W.nsIn K mainGlobals "abs" = some none)
    (z_all : PySem.W.nsIn K mainGlobals "all" = some none)
    (z_bool : PySem.W.nsIn K mainGlobals "bool" = some none)
    (z_divmod : PySem.W.nsIn K mainGlobals "divmod" = some none)
    (z_int : PySem.W.nsIn K mainGlobals "int" = some none)
    (z_isinstance : PySem.W.nsIn K mainGlobals "isinstance" = some none)
    (z_len : PySem.W.nsIn K mainGlobals "len" = some none)
    (z_max : PySem.W.nsIn K mainGlobals "max" = some none)
    (z_min : PySem.W.nsIn K mainGlobals "min" = some none)
    (z_range : PySem.W.nsIn K mainGlobals "range" = some none)
    (z_repr : PySem.W.nsIn K mainGlobals "repr" = some none)
    (z_str : PySem.W.nsIn K mainGlobals "str" = some none)
    (z_tuple : PySem.W.nsIn K mainGlobals "tuple" = some none)
    (cg1 : PySem.W.specialIn K (.builtin "object.__class__") "__get__" = some (some (.builtin "getset_descriptor.__get__"))) (cg2 : PySem.W.takesIn K (.builtin "object.__class__") = some true)
    (xini_GroupError : PySem.W.excInitIn K k_GroupError (tailOf "ValueError") "ValueError.__new__" = true)
    (xov_GroupError : PySem.W.excOver K k_GroupError (tailOf "ValueError") = true)
    (xsa_GroupError : PySem.W.findIn K (.ref k_GroupError) "__setattr__" = some (some (.builtin "object.__setattr__")))
    (xhd_GroupError : PySem.W.hasDictIn K k_GroupError = true)
    (xexC_GroupError : PySem.W.subIn K (.ref k_GroupError) (.type "BaseException") = some true)
    (xtyC_GroupError : PySem.W.typeIn K (.ref k_GroupError) = some (.type "type"))
    (xkC_GroupError : PySem.W.keepIn K (.ref k_GroupError) = true)
    (xga_GroupError : PySem.W.findIn K (.ref k_GroupError) "__getattribute__" = some (some (.builtin "BaseException.__getattribute__")))
    (xgg_GroupError : PySem.W.findIn K (.ref k_GroupError) "__getattr__" = some none)
    (xcl_GroupError : PySem.W.findIn K (.ref k_GroupError) "__class__" = some (some (.builtin "object.__class__")))
    (xhm_GroupError : PySem.W.mroIn K k_GroupError (.type "object") = some true)
    (xsp_GroupError : PySem.W.specialIn K (.ref k_GroupError) "__getattribute__" = some (some (.builtin "type.__getattribute__")))
    (xrd_GroupError : PySem.W.readsIn K k_GroupError (.type "type") = true)
    (xfc_GroupError : PySem.W.findCls K (.ref k_GroupError) (.type "type") "__init__" = some (.val (.builtin "ValueError.__init__")))
    (xini_InvalidWindow : PySem.W.excInitIn K k_InvalidWindow (tailOf "ValueError") "ValueError.__new__" = true)
    (xov_InvalidWindow : PySem.W.excOver K k_InvalidWindow (tailOf "ValueError") = true)
    (xsa_InvalidWindow : PySem.W.findIn K (.ref k_InvalidWindow) "__setattr__" = some (some (.builtin "object.__setattr__")))
    (xhd_InvalidWindow : PySem.W.hasDictIn K k_InvalidWindow = true)
    (xexC_InvalidWindow : PySem.W.subIn K (.ref k_InvalidWindow) (.type "BaseException") = some true)
    (xtyC_InvalidWindow : PySem.W.typeIn K (.ref k_InvalidWindow) = some (.type "type"))
    (xkC_InvalidWindow : PySem.W.keepIn K (.ref k_InvalidWindow) = true)
    (xga_InvalidWindow : PySem.W.findIn K (.ref k_InvalidWindow) "__getattribute__" = some (some (.builtin "BaseException.__getattribute__")))
    (xgg_InvalidWindow : PySem.W.findIn K (.ref k_InvalidWindow) "__getattr__" = some none)
    (xcl_InvalidWindow : PySem.W.findIn K (.ref k_InvalidWindow) "__class__" = some (some (.builtin "object.__class__")))
    (xhm_InvalidWindow : PySem.W.mroIn K k_InvalidWindow (.type "object") = some true)
    (xini_InvalidText : PySem.W.excInitIn K k_InvalidText (tailOf "ValueError") "ValueError.__new__" = true)
    (xov_InvalidText : PySem.W.excOver K k_InvalidText (tailOf "ValueError") = true)
    (xsa_InvalidText : PySem.W.findIn K (.ref k_InvalidText) "__setattr__" = some (some (.builtin "object.__setattr__")))
    (xhd_InvalidText : PySem.W.hasDictIn K k_InvalidText = true)
    (xexC_InvalidText : PySem.W.subIn K (.ref k_InvalidText) (.type "BaseException") = some true)
    (xtyC_InvalidText : PySem.W.typeIn K (.ref k_InvalidText) = some (.type "type"))
    (xkC_InvalidText : PySem.W.keepIn K (.ref k_InvalidText) = true)
    (xga_InvalidText : PySem.W.findIn K (.ref k_InvalidText) "__getattribute__" = some (some (.builtin "BaseException.__getattribute__")))
    (xgg_InvalidText : PySem.W.findIn K (.ref k_InvalidText) "__getattr__" = some none)
    (xcl_InvalidText : PySem.W.findIn K (.ref k_InvalidText) "__class__" = some (some (.builtin "object.__class__")))
    (xhm_InvalidText : PySem.W.mroIn K k_InvalidText (.type "object") = some true)
    (ki_GroupError_InvalidWindow : PySem.W.kitOne K (.ref k_GroupError) (.ref k_InvalidWindow) = some false)
    (ki_GroupError_InvalidText : PySem.W.kitOne K (.ref k_GroupError) (.ref k_InvalidText) = some false)
    (su_GroupError_GroupError : PySem.W.subIn K (.ref k_GroupError) (.ref k_GroupError) = some true)
    (tI_InvalidWindow : PySem.W.typeIn K (.ref f0) = some (.type "function"))
    (tk_InvalidWindow_value : PySem.W.takerIn K k_InvalidWindow "value" = some none)
    (nf_InvalidWindow_value : PySem.W.findIn K (.ref k_InvalidWindow) "value" = some none)
    (ki_InvalidWindow_InvalidWindow : PySem.W.kitOne K (.ref k_InvalidWindow) (.ref k_InvalidWindow) = some true)
    (ki_InvalidWindow_InvalidText : PySem.W.kitOne K (.ref k_InvalidWindow) (.ref k_InvalidText) = some false)
    (su_InvalidWindow_GroupError : PySem.W.subIn K (.ref k_InvalidWindow) (.ref k_GroupError) = some true)
    (tI_InvalidText : PySem.W.typeIn K (.ref f1) = some (.type "function"))
    (tk_InvalidText_line : PySem.W.takerIn K k_InvalidText "line" = some none)
    (nf_InvalidText_line : PySem.W.findIn K (.ref k_InvalidText) "line" = some none)
    (ki_InvalidText_InvalidWindow : PySem.W.kitOne K (.ref k_InvalidText) (.ref k_InvalidWindow) = some false)
    (ki_InvalidText_InvalidText : PySem.W.kitOne K (.ref k_InvalidText) (.ref k_InvalidText) = some true)
    (su_InvalidText_GroupError : PySem.W.subIn K (.ref k_InvalidText) (.ref k_GroupError) = some true) :
    ∃ fd : FuncData, (∀ (s : Shared) (v : Value), BindsTo s fd ⟨[v], []⟩ [("_law_script", v)]) ∧ ∀ base : Heap, K.In base → base.Ns mainGlobals mg → Fg l.prog w K mg base CX0 8 fa fd ["_law_script"] (sp_law K) := by
  have e := hfa.symm.trans (PySem.W.mg_of X G a20)
  cases e
  have F0 := fun_mk (st := s_InvalidWindowx_initx) l0 c0 k0
  have F1 := fun_mk (st := s_InvalidTextx_initx) l1 c1 k1
  have F2 := fun_mk (st := s_is_integer) l2 c2 k2
  have F3 := fun_mk (st := s_is_version) l3 c3 k3
  have F4 := fun_mk (st := s_parse_number) l4 c4 k4
  have F5 := fun_mk (st := s_is_window) l5 c5 k5
  have F6 := fun_mk (st := s_require_window) l6 c6 k6
  have F7 := fun_mk (st := s_format_window) l7 c7 k7
  have F8 := fun_mk (st := s_window_in) l8 c8 k8
  have F9 := fun_mk (st := s_parse_window) l9 c9 k9
  have F10 := fun_mk (st := s_l_rng) l10 c10 k10
  have F11 := fun_mk (st := s_l_draw) l11 c11 k11
  have F12 := fun_mk (st := s_l_text) l12 c12 k12
  have F13 := fun_mk (st := s_l_number) l13 c13 k13
  have F14 := fun_mk (st := s_l_read) l14 c14 k14
  have F15 := fun_mk (st := s_l_window) l15 c15 k15
  have F16 := fun_mk (st := s_l_changed) l16 c16 k16
  have F17 := fun_mk (st := s_l_formatted) l17 c17 k17
  have F18 := fun_mk (st := s_l_parsed) l18 c18 k18
  have F19 := fun_mk (st := s_l_string_right) l19 c19 k19
  have F20 := fun_mk (st := s_law) l20 c20 k20
  have b0 := F0.binds (ps := ["self", "value"]) fun _ _ _ _ _ _ us hl => match us, hl with | [_, _], _ => rfl
  have b1 := F1.binds (ps := ["self", "line"]) fun _ _ _ _ _ _ us hl => match us, hl with | [_, _], _ => rfl
  have b2 := F2.binds (ps := ["value"]) fun _ _ _ _ _ _ us hl => match us, hl with | [_], _ => rfl
  have b3 := F3.binds (ps := ["value"]) fun _ _ _ _ _ _ us hl => match us, hl with | [_], _ => rfl
  have b4 := F4.binds (ps := ["word"]) fun _ _ _ _ _ _ us hl => match us, hl with | [_], _ => rfl
  have b5 := F5.binds (ps := ["value"]) fun _ _ _ _ _ _ us hl => match us, hl with | [_], _ => rfl
  have b6 := F6.binds (ps := ["value"]) fun _ _ _ _ _ _ us hl => match us, hl with | [_], _ => rfl
  have b7 := F7.binds (ps := ["window"]) fun _ _ _ _ _ _ us hl => match us, hl with | [_], _ => rfl
  have b8 := F8.binds (ps := ["text"]) fun _ _ _ _ _ _ us hl => match us, hl with | [_], _ => rfl
  have b9 := F9.binds (ps := ["text"]) fun _ _ _ _ _ _ us hl => match us, hl with | [_], _ => rfl
  have b10 := F10.binds (ps := ["_law_script", "_law_k"]) fun _ _ _ _ _ _ us hl => match us, hl with | [_, _], _ => rfl
  have b11 := F11.binds (ps := ["_law_rng_here", "_law_many"]) fun _ _ _ _ _ _ us hl => match us, hl with | [_, _], _ => rfl
  have b12 := F12.binds (ps := ["_law_window_here"]) fun _ _ _ _ _ _ us hl => match us, hl with | [_], _ => rfl
  have b13 := F13.binds (ps := ["_law_word"]) fun _ _ _ _ _ _ us hl => match us, hl with | [_], _ => rfl
  have b14 := F14.binds (ps := ["_law_text_here"]) fun _ _ _ _ _ _ us hl => match us, hl with | [_], _ => rfl
  have b15 := F15.binds (ps := ["_law_rng_here"]) fun _ _ _ _ _ _ us hl => match us, hl with | [_], _ => rfl
  have b16 := F16.binds (ps := ["_law_rng_here", "_law_text_here"]) fun _ _ _ _ _ _ us hl => match us, hl with | [_, _], _ => rfl
  have b17 := F17.binds (ps := ["_law_value"]) fun _ _ _ _ _ _ us hl => match us, hl with | [_], _ => rfl
  have b18 := F18.binds (ps := ["_law_value"]) fun _ _ _ _ _ _ us hl => match us, hl with | [_], _ => rfl
  have b19 := F19.binds (ps := ["_law_text_here"]) fun _ _ _ _ _ _ us hl => match us, hl with | [_], _ => rfl
  have b20 := F20.binds (ps := ["_law_script"]) fun _ _ _ _ _ _ us hl => match us, hl with | [_], _ => rfl
  have T : Txt K mg ⟨f0, _, f1, _, f2, _, f3, _, f4, _, f5, _, f6, _, f7, _, f8, _, f9, _, f10, _, f11, _, f12, _, f13, _, f14, _, f15, _, f16, _, f17, _, f18, _, f19, _, fa, _, t_DIGITS, t_MAX_DIGITS, t_DOTS, k_GroupError, k_InvalidWindow, k_InvalidText⟩ := {
    F_InvalidWindowx_initx := F0,
    b_InvalidWindowx_initx := b0,
    F_InvalidTextx_initx := F1,
    b_InvalidTextx_initx := b1,
    F_is_integer := F2,
    g_is_integer := PySem.W.mg_of X G a2,
    b_is_integer := b2,
    F_is_version := F3,
    g_is_version := PySem.W.mg_of X G a3,
    b_is_version := b3,
    F_parse_number := F4,
    g_parse_number := PySem.W.mg_of X G a4,
    b_parse_number := b4,
    F_is_window := F5,
    g_is_window := PySem.W.mg_of X G a5,
    b_is_window := b5,
    F_require_window := F6,
    g_require_window := PySem.W.mg_of X G a6,
    b_require_window := b6,
    F_format_window := F7,
    g_format_window := PySem.W.mg_of X G a7,
    b_format_window := b7,
    F_window_in := F8,
    g_window_in := PySem.W.mg_of X G a8,
    b_window_in := b8,
    F_parse_window := F9,
    g_parse_window := PySem.W.mg_of X G a9,
    b_parse_window := b9,
    F_l_rng := F10,
    g_l_rng := PySem.W.mg_of X G a10,
    b_l_rng := b10,
    F_l_draw := F11,
    g_l_draw := PySem.W.mg_of X G a11,
    b_l_draw := b11,
    F_l_text := F12,
    g_l_text := PySem.W.mg_of X G a12,
    b_l_text := b12,
    F_l_number := F13,
    g_l_number := PySem.W.mg_of X G a13,
    b_l_number := b13,
    F_l_read := F14,
    g_l_read := PySem.W.mg_of X G a14,
    b_l_read := b14,
    F_l_window := F15,
    g_l_window := PySem.W.mg_of X G a15,
    b_l_window := b15,
    F_l_changed := F16,
    g_l_changed := PySem.W.mg_of X G a16,
    b_l_changed := b16,
    F_l_formatted := F17,
    g_l_formatted := PySem.W.mg_of X G a17,
    b_l_formatted := b17,
    F_l_parsed := F18,
    g_l_parsed := PySem.W.mg_of X G a18,
    b_l_parsed := b18,
    F_l_string_right := F19,
    g_l_string_right := PySem.W.mg_of X G a19,
    b_l_string_right := b19,
    F_law := F20,
    g_law := PySem.W.mg_of X G a20,
    b_law := b20,
    c_DIGITS := PySem.W.mg_of X G q_DIGITS,
    c_MAX_DIGITS := PySem.W.mg_of X G q_MAX_DIGITS,
    c_DOTS := PySem.W.mg_of X G q_DOTS,
    m_abs := PySem.W.mg_none_of X G z_abs,
    m_all := PySem.W.mg_none_of X G z_all,
    m_bool := PySem.W.mg_none_of X G z_bool,
    m_divmod := PySem.W.mg_none_of X G z_divmod,
    m_int := PySem.W.mg_none_of X G z_int,
    m_isinstance := PySem.W.mg_none_of X G z_isinstance,
    m_len := PySem.W.mg_none_of X G z_len,
    m_max := PySem.W.mg_none_of X G z_max,
    m_min := PySem.W.mg_none_of X G z_min,
    m_range := PySem.W.mg_none_of X G z_range,
    m_repr := PySem.W.mg_none_of X G z_repr,
    m_str := PySem.W.mg_none_of X G z_str,
    m_tuple := PySem.W.mg_none_of X G z_tuple,
    gX_GroupError := PySem.W.mg_of X G qX_GroupError,
    gX_InvalidWindow := PySem.W.mg_of X G qX_InvalidWindow,
    gX_InvalidText := PySem.W.mg_of X G qX_InvalidText,
    cg := ⟨cg1, cg2⟩,
    EX_GroupError := ⟨⟨baseV, xini_GroupError, xov_GroupError, xsa_GroupError, xhd_GroupError, xexC_GroupError, xtyC_GroupError, xkC_GroupError⟩, xga_GroupError, xgg_GroupError, xcl_GroupError, xhm_GroupError⟩,
    EX_InvalidWindow := ⟨⟨baseV, xini_InvalidWindow, xov_InvalidWindow, xsa_InvalidWindow, xhd_InvalidWindow, xexC_InvalidWindow, xtyC_InvalidWindow, xkC_InvalidWindow⟩, xga_InvalidWindow, xgg_InvalidWindow, xcl_InvalidWindow, xhm_InvalidWindow⟩,
    EX_InvalidText := ⟨⟨baseV, xini_InvalidText, xov_InvalidText, xsa_InvalidText, xhd_InvalidText, xexC_InvalidText, xtyC_InvalidText, xkC_InvalidText⟩, xga_InvalidText, xgg_InvalidText, xcl_InvalidText, xhm_InvalidText⟩,
    IB_GroupError := ⟨xsp_GroupError, xrd_GroupError, xfc_GroupError⟩,
    ki_GroupError_InvalidWindow := ki_GroupError_InvalidWindow,
    ki_GroupError_InvalidText := ki_GroupError_InvalidText,
    su_GroupError_GroupError := su_GroupError_GroupError,
    iC_InvalidWindow := a0,
    tI_InvalidWindow := tI_InvalidWindow,
    tk_InvalidWindow_value := tk_InvalidWindow_value,
    nf_InvalidWindow_value := nf_InvalidWindow_value,
    ki_InvalidWindow_InvalidWindow := ki_InvalidWindow_InvalidWindow,
    ki_InvalidWindow_InvalidText := ki_InvalidWindow_InvalidText,
    su_InvalidWindow_GroupError := su_InvalidWindow_GroupError,
    iC_InvalidText := a1,
    tI_InvalidText := tI_InvalidText,
    tk_InvalidText_line := tk_InvalidText_line,
    nf_InvalidText_line := nf_InvalidText_line,
    ki_InvalidText_InvalidWindow := ki_InvalidText_InvalidWindow,
    ki_InvalidText_InvalidText := ki_InvalidText_InvalidText,
    su_InvalidText_GroupError := su_InvalidText_GroupError }
  exact ⟨_, fun s v => .of_eq rfl, fun base _ _ => ok_law T⟩
end
end KX
open PySem PySem.W PyProof.Rows
set_option maxHeartbeats 0 in
theorem PySem.Challenge.cw_groupsteps_k14_window_texts_holds : PySem.Challenge.rw_groupsteps_k14_window_texts.Holds := by
  w_on; o_law; k_head; (case hw => w_witness2)
  k_fill
  refine KX.walkG (l := PySem.Challenge.rw_groupsteps_k14_window_texts) (n := 63) (k := 8) (x := "_law_script") (CX := fun _ => L2.CX0) (sp := fun w => KX.sp_law _) rfl (by decide) rfl ⟨rfl, by decide, by decide⟩ (fun w h Y => PySem.W.kIn_of Y) ?F (fun _ _ a ns hl hb hS => KX.sp_law_of hl hb hS) (fun _ _ _ _ _ h => h)
  case F =>
    intro w mg fa h inK G hmg
    refine' KX.all_mk inK G hmg ?qX_GroupError ?qX_InvalidWindow ?qX_InvalidText ?a0 ?l0 ?c0 ?k0 ?a1 ?l1 ?c1 ?k1 ?a2 ?l2 ?c2 ?k2 ?a3 ?l3 ?c3 ?k3 ?a4 ?l4 ?c4 ?k4 ?a5 ?l5 ?c5 ?k5 ?a6 ?l6 ?c6 ?k6 ?a7 ?l7 ?c7 ?k7 ?a8 ?l8 ?c8 ?k8 ?a9 ?l9 ?c9 ?k9 ?a10 ?l10 ?c10 ?k10 ?a11 ?l11 ?c11 ?k11 ?a12 ?l12 ?c12 ?k12 ?a13 ?l13 ?c13 ?k13 ?a14 ?l14 ?c14 ?k14 ?a15 ?l15 ?c15 ?k15 ?a16 ?l16 ?c16 ?k16 ?a17 ?l17 ?c17 ?k17 ?a18 ?l18 ?c18 ?k18 ?a19 ?l19 ?c19 ?k19 ?a20 ?l20 ?c20 ?k20 ?q_DIGITS ?q_MAX_DIGITS ?q_DOTS ?z_abs ?z_all ?z_bool ?z_divmod ?z_int ?z_isinstance ?z_len ?z_max ?z_min ?z_range ?z_repr ?z_str ?z_tuple ?cg1 ?cg2 ?xini_GroupError ?xov_GroupError ?xsa_GroupError ?xhd_GroupError ?xexC_GroupError ?xtyC_GroupError ?xkC_GroupError ?xga_GroupError ?xgg_GroupError ?xcl_GroupError ?xhm_GroupError ?xsp_GroupError ?xrd_GroupError ?xfc_GroupError ?xini_InvalidWindow ?xov_InvalidWindow ?xsa_InvalidWindow ?xhd_InvalidWindow ?xexC_InvalidWindow ?xtyC_InvalidWindow ?xkC_InvalidWindow ?xga_InvalidWindow ?xgg_InvalidWindow ?xcl_InvalidWindow ?xhm_InvalidWindow ?xini_InvalidText ?xov_InvalidText ?xsa_InvalidText ?xhd_InvalidText ?xexC_InvalidText ?xtyC_InvalidText ?xkC_InvalidText ?xga_InvalidText ?xgg_InvalidText ?xcl_InvalidText ?xhm_InvalidText ?ki_GroupError_InvalidWindow ?ki_GroupError_InvalidText ?su_GroupError_GroupError ?tI_InvalidWindow ?tk_InvalidWindow_value ?nf_InvalidWindow_value ?ki_InvalidWindow_InvalidWindow ?ki_InvalidWindow_InvalidText ?su_InvalidWindow_GroupError ?tI_InvalidText ?tk_InvalidText_line ?nf_InvalidText_line ?ki_InvalidText_InvalidWindow ?ki_InvalidText_InvalidText ?su_InvalidText_GroupError
    (case qX_GroupError => k_is)
    (case qX_InvalidWindow => k_is)
    (case qX_InvalidText => k_is)
    (case a0 => k_is)
    (case l0 => k_is)
    (case c0 => k_is)
    (case k0 => k_is)
    (case a1 => k_is)
    (case l1 => k_is)
    (case c1 => k_is)
    (case k1 => k_is)
    (case a2 => k_is)
    (case l2 => k_is)
    (case c2 => k_is)
    (case k2 => k_is)
    (case a3 => k_is)
    (case l3 => k_is)
    (case c3 => k_is)
    (case k3 => k_is)
    (case a4 => k_is)
    (case l4 => k_is)
    (case c4 => k_is)
    (case k4 => k_is)
    (case a5 => k_is)
    (case l5 => k_is)
    (case c5 => k_is)
    (case k5 => k_is)
    (case a6 => k_is)
    (case l6 => k_is)
    (case c6 => k_is)
    (case k6 => k_is)
    (case a7 => k_is)
    (case l7 => k_is)
    (case c7 => k_is)
    (case k7 => k_is)
    (case a8 => k_is)
    (case l8 => k_is)
    (case c8 => k_is)
    (case k8 => k_is)
    (case a9 => k_is)
    (case l9 => k_is)
    (case c9 => k_is)
    (case k9 => k_is)
    (case a10 => k_is)
    (case l10 => k_is)
    (case c10 => k_is)
    (case k10 => k_is)
    (case a11 => k_is)
    (case l11 => k_is)
    (case c11 => k_is)
    (case k11 => k_is)
    (case a12 => k_is)
    (case l12 => k_is)
    (case c12 => k_is)
    (case k12 => k_is)
    (case a13 => k_is)
    (case l13 => k_is)
    (case c13 => k_is)
    (case k13 => k_is)
    (case a14 => k_is)
    (case l14 => k_is)
    (case c14 => k_is)
    (case k14 => k_is)
    (case a15 => k_is)
    (case l15 => k_is)
    (case c15 => k_is)
    (case k15 => k_is)
    (case a16 => k_is)
    (case l16 => k_is)
    (case c16 => k_is)
    (case k16 => k_is)
    (case a17 => k_is)
    (case l17 => k_is)
    (case c17 => k_is)
    (case k17 => k_is)
    (case a18 => k_is)
    (case l18 => k_is)
    (case c18 => k_is)
    (case k18 => k_is)
    (case a19 => k_is)
    (case l19 => k_is)
    (case c19 => k_is)
    (case k19 => k_is)
    (case a20 => k_is)
    (case l20 => k_is)
    (case c20 => k_is)
    (case k20 => k_is)
    (case q_DIGITS => k_is)
    (case q_MAX_DIGITS => k_is)
    (case q_DOTS => k_is)
    (case z_abs => k_is)
    (case z_all => k_is)
    (case z_bool => k_is)
    (case z_divmod => k_is)
    (case z_int => k_is)
    (case z_isinstance => k_is)
    (case z_len => k_is)
    (case z_max => k_is)
    (case z_min => k_is)
    (case z_range => k_is)
    (case z_repr => k_is)
    (case z_str => k_is)
    (case z_tuple => k_is)
    (case cg1 => k_is)
    (case cg2 => k_is)
    (case xini_GroupError => kx_is)
    (case xov_GroupError => kx_is)
    (case xsa_GroupError => k_is)
    (case xhd_GroupError => k_is)
    (case xexC_GroupError => k_is)
    (case xtyC_GroupError => k_is)
    (case xkC_GroupError => k_is)
    (case xga_GroupError => k_is)
    (case xgg_GroupError => k_is)
    (case xcl_GroupError => k_is)
    (case xhm_GroupError => k_is)
    (case xsp_GroupError => k_is)
    (case xrd_GroupError => k_is)
    (case xfc_GroupError => k_is)
    (case xini_InvalidWindow => kx_is)
    (case xov_InvalidWindow => kx_is)
    (case xsa_InvalidWindow => k_is)
    (case xhd_InvalidWindow => k_is)
    (case xexC_InvalidWindow => k_is)
    (case xtyC_InvalidWindow => k_is)
    (case xkC_InvalidWindow => k_is)
    (case xga_InvalidWindow => k_is)
    (case xgg_InvalidWindow => k_is)
    (case xcl_InvalidWindow => k_is)
    (case xhm_InvalidWindow => k_is)
    (case xini_InvalidText => kx_is)
    (case xov_InvalidText => kx_is)
    (case xsa_InvalidText => k_is)
    (case xhd_InvalidText => k_is)
    (case xexC_InvalidText => k_is)
    (case xtyC_InvalidText => k_is)
    (case xkC_InvalidText => k_is)
    (case xga_InvalidText => k_is)
    (case xgg_InvalidText => k_is)
    (case xcl_InvalidText => k_is)
    (case xhm_InvalidText => k_is)
    (case ki_GroupError_InvalidWindow => kit_is)
    (case ki_GroupError_InvalidText => kit_is)
    (case su_GroupError_GroupError => k_is)
    (case tI_InvalidWindow => k_is)
    (case tk_InvalidWindow_value => k_is)
    (case nf_InvalidWindow_value => k_is)
    (case ki_InvalidWindow_InvalidWindow => kit_is)
    (case ki_InvalidWindow_InvalidText => kit_is)
    (case su_InvalidWindow_GroupError => k_is)
    (case tI_InvalidText => k_is)
    (case tk_InvalidText_line => k_is)
    (case nf_InvalidText_line => k_is)
    (case ki_InvalidText_InvalidWindow => kit_is)
    (case ki_InvalidText_InvalidText => kit_is)
    (case su_InvalidText_GroupError => k_is)
