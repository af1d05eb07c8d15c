import PyProof.Rows.All
import Wide.All
import OpenK.AllK
import Wide.FinOn
import PySem.Challenge.RW_pf0034_01
set_option Elab.async false
set_option compiler.extract_closed false

section
open PySem PySem.W PyProof.Rows
namespace Mine
set_option synthInstance.maxSize 1 in
set_option maxRecDepth 100000 in
set_option maxHeartbeats 8000000 in
open_top hd for PySem.Challenge.rw_pf0034_01
theorem top_off : True := by
  w_top off
  trivial
end Mine
end

section
local macro_rules | `(tactic| omega) => `(tactic| first | lia | omega +splitNatSub)
section
open PySem PySem.W PyProof.Rows PySem.Calls PySem.Spec
namespace Mine
set_option maxRecDepth 100000
abbrev RR := PySem.Challenge.rw_pf0034_01
abbrev Keeps (h h' : Heap) : Prop := ∀ b o, h.get? b = some o → h'.get? b = some o
abbrev Ar (dp un : Nat) (gd : Option (List Code)) (outer : List Env) : Around := { handled := none, depth := dp, frames := some outer, guards := gd, units := un }
/-- what a call of the text's own def asks and gives -/
def CallOk (w : World) (f : Addr) (args : List Value) (dep : Nat) (pre : Heap → Prop) (post : Heap → Value → Heap → Prop) : Prop :=
  ∀ (mean : ExcName → Option Value) (mg mb : Str → Option Value) (dp un : Nat) (gd : Option (List Code)) (outer : List Env) (base : Heap) (s : Shared) (Q E : Value → Shared → Prop),
    (hd.heap_39 w.params).In s.heap → Top hd.view_39 (looseW hd.view_39 []) mean mg mb s.heap → dp + dep < recursionLimit → un + 8 * dep < cLine →
    Below (Ar dp un gd outer) base outer s.heap →
    pre s.heap → (∀ v h' tk', Keeps s.heap h' → post s.heap v h' → Q v { s with heap := h', toks := tk' }) →
    wpAny (model RR.row.prog w) (Ar dp un gd outer) (call (.ref f) args) Q E s
/-- the end of a def's body -/
def Done (s : Shared) (post : Heap → Value → Heap → Prop) (v : Value) (s' : Shared) : Prop :=
  ∃ h' tk', s' = { s with heap := h', toks := tk' } ∧ Keeps s.heap h' ∧ post s.heap v h'
theorem Done.of {s : Shared} {L : Addr} {m : Str → Option Value} {h' : Heap} {tk' : Nat} {v : Value} {post : Heap → Value → Heap → Prop} (F : Fr s.heap L h' m) (hp : post s.heap v h') : Done s post v { s with heap := h', toks := tk' } :=
  ⟨h', tk', rfl, F.keep, hp⟩
theorem enter {w : World} {f : Addr} {args : List Value} {dep : Nat} {pre : Heap → Prop} {post : Heap → Value → Heap → Prop}
    {name qual : Str} {params : Arguments} {body : List Stmt} {scope : Scope} {dV kV doc pm cdv ct oc : Value} {an od : Option Addr} {osl : Array (Option Value)} (binds : List (Str × Value))
    (ho : (hd.heap_39 w.params).lookup f = some ⟨oc, od, .func (fnOf name qual params body scope dV kV doc pm an cdv ct), osl⟩) (hcd : codeIn (hd.heap_39 w.params) cdv qual = true)
    (hbind : ∀ s, BindsTo s (fnOf name qual params body scope dV kV doc pm an cdv ct) ⟨args, []⟩ binds) (hloc : ∀ y ∈ binds, scope.names.lookup y.1 = some .local)
    (hco : scope.isCoroutine = false) (hgen : scope.isGenerator = false) (hk : scope.kind = .function) (hcell : ∀ x ∈ scope.names, x.2 ≠ .cell)
    (h : ∀ (mean : ExcName → Option Value) (mg mb : Str → Option Value) (dp un : Nat) (gd : Option (List Code)) (s : Shared) (h₁ : Heap) (L : Addr) (base : Heap) (outer : List Env),
      Fr s.heap L h₁ (fun y => binds.reverse.lookup y) → News s.heap L h₁ [] → (hd.heap_39 w.params).In s.heap → Top hd.view_39 (looseW hd.view_39 []) mean mg mb s.heap →
      Below (Ar dp un gd outer) base outer s.heap → dp + (dep + 1) < recursionLimit → un + 8 * (dep + 1) < cLine → pre s.heap →
      wpAny (model RR.row.prog w) (Ar (dp + 1) (un + 3) gd (envOf qual scope L f cdv :: outer)) (execs body (envOf qual scope L f cdv))
        (fun fl s' => Done s post (match fl with | .ret v => v | _ => .none) s') (fun _ _ => False) { s with heap := h₁, toks := s.toks + binds.length }) :
    CallOk w f args (dep + 1) pre post := by
  intro mean mg mb dp un gd outer base s Q E X T hd hu B hp hQ
  refine wpAny_call (codeAny_call_def (fd := fnOf name qual params body scope dV kV doc pm an cdv ct) (body := body) (binds := binds) (by show dp < _; omega) (X _ _ ho) rfl T.nolimit (codeRec_of X hcd) rfl (hbind s) hcell hloc (fun h₁ hns hk₁ => ?_) hco hgen hk)
  refine wpAny_mono (h mean mg mb dp un gd s h₁ s.heap.objs.size base outer ⟨hns, fun b o e => hk₁ b o e, Nat.le_refl _⟩ News.nil X T B hd hu hp) (fun fl s' hl => ?_) (fun _ _ x => x.elim)
  obtain ⟨h', tk', rfl, hk', hpost⟩ := hl
  exact hQ _ h' tk' hk' hpost
theorem enterC {w : World} {f : Addr} {args : List Value} {dep : Nat} {pre : Heap → Prop} {post : Heap → Value → Heap → Prop}
    {name qual : Str} {params : Arguments} {body : List Stmt} {scope : Scope} {dV kV doc pm cdv ct oc : Value} {an od : Option Addr} {osl : Array (Option Value)} (binds : List (Str × Value))
    (ho : (hd.heap_39 w.params).lookup f = some ⟨oc, od, .func (fnOf name qual params body scope dV kV doc pm an cdv ct), osl⟩) (hcd : codeIn (hd.heap_39 w.params) cdv qual = true)
    (hbind : ∀ s, BindsTo s (fnOf name qual params body scope dV kV doc pm an cdv ct) ⟨args, []⟩ binds)
    (hkind : ∀ n, ∀ x ∈ binds, scope.names.lookup x.1 = some .local ∨ (scope.names.lookup x.1 = some .cell ∧ ((cellsFrom n scope.names []).lookup x.1).isSome = true))
    (hnd : ((cellsFrom 0 scope.names []).map (·.1)).Nodup)
    (hco : scope.isCoroutine = false) (hgen : scope.isGenerator = false) (hk : scope.kind = .function)
    (h : ∀ (mean : ExcName → Option Value) (mg mb : Str → Option Value) (dp un : Nat) (gd : Option (List Code)) (s : Shared) (h₁ : Heap) (L tk : Nat) (cells : List (Addr × Obj)) (base : Heap) (outer : List Env),
      Fr s.heap L h₁ (bindL (envX qual scope L f cdv (cellsFrom (L + 1) scope.names [])).kindOf binds fun _ => none) → News s.heap L h₁ cells →
      CellsAre (bindC (envX qual scope L f cdv (cellsFrom (L + 1) scope.names [])).kindOf binds fun _ => none) (cellsFrom (L + 1) scope.names []) cells → (hd.heap_39 w.params).In s.heap → Top hd.view_39 (looseW hd.view_39 []) mean mg mb s.heap →
      Below (Ar dp un gd outer) base outer s.heap → dp + (dep + 1) < recursionLimit → un + 8 * (dep + 1) < cLine → pre s.heap →
      wpAny (model RR.row.prog w) (Ar (dp + 1) (un + 3) gd (envX qual scope L f cdv (cellsFrom (L + 1) scope.names []) :: outer)) (execs body (envX qual scope L f cdv (cellsFrom (L + 1) scope.names [])))
        (fun fl s' => Done s post (match fl with | .ret v => v | _ => .none) s') (fun _ _ => False) { s with heap := h₁, toks := tk }) :
    CallOk w f args (dep + 1) pre post := by
  intro mean mg mb dp un gd outer base s Q E X T hd hu B hp hQ
  refine wpAny_call (codeAny_call_function (by show dp < _; omega) (X _ _ ho) rfl hco hgen rfl (codeRec_of X hcd) (hbind _ _ _ _ _ ?_))
  refine wpAny_newFunctionEnv_cells hk (hkind _) fun env' he s' x => ?_
  subst he
  refine ⟨T.nolimit.keeps x.toInCall.keep, codeAny_func ?_⟩
  obtain ⟨h₁, tk, rfl, _⟩ := x.done
  have hk₁ := x.toInCall.keep
  obtain ⟨cells, NC, Y⟩ := Cl.news (h₀ := s.heap) (Nat.le_refl _) fun n c hm => ⟨x.cell n c (lookup_of_mem_nodup (cellsFrom_names scope.names 0 (s.heap.objs.size + 1) [] [] rfl ▸ hnd) hm), x.above n c hm⟩
  refine wpAny_mono (h mean mg mb dp un gd s h₁ s.heap.objs.size tk cells base outer ⟨x.toInCall.ns, hk₁, Nat.le_refl _⟩ NC Y X T B hd hu hp) (fun fl s' hl => ?_) (fun _ _ x => x.elim)
  obtain ⟨h', tk', rfl, hk', hpost⟩ := hl
  exact hQ _ h' tk' hk' hpost
theorem Fr.over {h₀ h h' : Heap} {L : Addr} {m : Str → Option Value} (F : Fr h₀ L h m) (k : Keeps h h') : Fr h₀ L h' m := by
  obtain ⟨o, es, ep, hL, r⟩ := F.ns
  exact ⟨⟨o, es, ep, k _ _ hL, r⟩, fun b o e => k _ _ (F.keep b o e), F.above⟩
theorem News.over {h₀ h h' : Heap} {L : Addr} {news : List (Addr × Obj)} (N : News h₀ L h news) (k : Keeps h h') : News h₀ L h' news :=
  fun p hp => ⟨k _ _ (N p hp).1, (N p hp).2⟩
/-- a call made in a def's frame -/
theorem CallOk.use {w : World} {f : Addr} {args : List Value} {dep : Nat} {pre : Heap → Prop} {post : Heap → Value → Heap → Prop} (C : CallOk w f args dep pre post)
    {mean : ExcName → Option Value} {mg mb : Str → Option Value} {dp un un' : Nat} {gd : Option (List Code)} {outer : List Env} {base h₀ : Heap} {L a : Addr} {m : Str → Option Value} {news : List (Addr × Obj)} {s : Shared} {Q E : Value → Shared → Prop}
    {cn : Str} {cs : Scope} {ccd : Value} {cl : List (Str × Addr)}
    (B : Below (Ar dp un gd outer) base outer h₀) (F : Fr h₀ L s.heap m) (N : News h₀ L s.heap news) (X : (hd.heap_39 w.params).In h₀) (T : Top hd.view_39 (looseW hd.view_39 []) mean mg mb h₀) (hk : cs.kind = .function)
    (hd : dp + 1 + dep < recursionLimit) (hu : un' + 8 * dep < cLine) (hp : pre s.heap)
    (hQ : ∀ v h' tk', Fr h₀ L h' m → News h₀ L h' news → Keeps s.heap h' → post s.heap v h' → Q v { s with heap := h', toks := tk' }) :
    wpAny (model RR.row.prog w) (Ar (dp + 1) un' gd (envX cn cs L a ccd cl :: outer)) (call (.ref f) args) Q E s := by
  refine C mean mg mb (dp + 1) un' gd (envX cn cs L a ccd cl :: outer) base s Q E (X.keeps F.keep) (Top.keeps T F.keep) hd hu ?_ hp (fun v h' tk' k hq => hQ v h' tk' (Fr.over F k) (News.over N k) k hq)
  have := pushX (env := envX cn cs L a ccd cl) B F rfl hk
  exact ⟨rfl, this.stays, this.frames⟩
theorem News.put {h₀ h h' : Heap} {L r : Addr} {m : Str → Option Value} {o : Obj} {news : List (Addr × Obj)} (F : Fr h₀ L h m) (N : News h₀ L h' news) (hr : h.get? r = none) (ho : h'.get? r = some o) : News h₀ L h' ((r, o) :: news) := by
  intro p hp
  rcases List.mem_cons.mp hp with rfl | hp
  · refine ⟨ho, fun e => ?_, ?_⟩
    · obtain ⟨oL, _, _, hL, _⟩ := F.ns
      have e' : r = L := e
      subst e'
      rw [hr] at hL
      cases hL
    · cases hq : h₀.get? r with
      | none => rfl
      | some o' => have := F.keep _ _ hq; rw [hr] at this; cases this
  · exact N p hp
/-- a halt of the walk: from here on by hand -/
def Stop (P : Prop) : Prop := P
theorem Stop.out {P : Prop} (h : Stop P) : P := h
theorem Stop.mk {P : Prop} (h : P) : Stop P := h
/-- a list of ints lies at a -/
def IntsAt (a : Addr) (ns : List Int) (h : Heap) : Prop := ∃ vs, h.IsList a vs.toArray ∧ IntsAre vs ns
abbrev lst (vs : List Value) (n : Nat) : Obj := { cls := .type "list", data := .seq vs.toArray n }
/-- a new list of ints comes back -/
def RetInts (ns : List Int) (h : Heap) (v : Value) (h' : Heap) : Prop := ∃ r vs n, v = .ref r ∧ h.get? r = none ∧ h'.get? r = some (lst vs n) ∧ IntsAre vs ns
/-- what a call that hands back a new list of ints gives -/
theorem CallOk.useL {w : World} {f : Addr} {args : List Value} {dep : Nat} {pre : Heap → Prop} {ns : List Int} (C : CallOk w f args dep pre (RetInts ns))
    {mean : ExcName → Option Value} {mg mb : Str → Option Value} {dp un un' : Nat} {gd : Option (List Code)} {outer : List Env} {base h₀ : Heap} {L a : Addr} {m : Str → Option Value} {news : List (Addr × Obj)} {s : Shared} {Q E : Value → Shared → Prop}
    {cn : Str} {cs : Scope} {ccd : Value} {cl : List (Str × Addr)}
    (B : Below (Ar dp un gd outer) base outer h₀) (F : Fr h₀ L s.heap m) (N : News h₀ L s.heap news) (X : (hd.heap_39 w.params).In h₀) (T : Top hd.view_39 (looseW hd.view_39 []) mean mg mb h₀) (hk : cs.kind = .function)
    (hd : dp + 1 + dep < recursionLimit) (hu : un' + 8 * dep < cLine) (hp : pre s.heap)
    (hQ : ∀ r vs n h' tk', Fr h₀ L h' m → News h₀ L h' ((r, lst vs n) :: news) → IntsAre vs ns → s.heap.get? r = none → (∀ p ∈ news, p.1 ≠ r) → Q (.ref r) { s with heap := h', toks := tk' }) :
    wpAny (model RR.row.prog w) (Ar (dp + 1) un' gd (envX cn cs L a ccd cl :: outer)) (call (.ref f) args) Q E s := by
  refine C.use B F N X T hk hd hu hp (fun v h' tk' F' N' _ hq => ?_)
  obtain ⟨r, vs, n, rfl, h1, h2, h3⟩ := hq
  exact hQ r vs n h' tk' F' (News.put F N' h1 h2) h3 h1 (fun p hp e => by have := (N p hp).1; rw [e, h1] at this; cases this)
def RetInt (k : Int) (_ : Heap) (v : Value) (_ : Heap) : Prop := ∃ t, v = .int k t
def RetBool (b : Bool) (_ : Heap) (v : Value) (_ : Heap) : Prop := v = .bool b
section
variable {w : World} {f : Addr} {args : List Value} {dep : Nat} {pre : Heap → Prop} {mean : ExcName → Option Value} {mg mb : Str → Option Value} {dp un un' : Nat} {gd : Option (List Code)} {outer : List Env} {base h₀ : Heap} {L a : Addr} {m : Str → Option Value} {news : List (Addr × Obj)} {s : Shared} {Q E : Value → Shared → Prop}
    {cn : Str} {cs : Scope} {ccd : Value} {cl : List (Str × Addr)}
theorem CallOk.useI {k : Int} (C : CallOk w f args dep pre (RetInt k))
    (B : Below (Ar dp un gd outer) base outer h₀) (F : Fr h₀ L s.heap m) (N : News h₀ L s.heap news) (X : (hd.heap_39 w.params).In h₀) (T : Top hd.view_39 (looseW hd.view_39 []) mean mg mb h₀) (hk : cs.kind = .function)
    (hd : dp + 1 + dep < recursionLimit) (hu : un' + 8 * dep < cLine) (hp : pre s.heap)
    (hQ : ∀ t h' tk', Fr h₀ L h' m → News h₀ L h' news → Q (.int k t) { s with heap := h', toks := tk' }) :
    wpAny (model RR.row.prog w) (Ar (dp + 1) un' gd (envX cn cs L a ccd cl :: outer)) (call (.ref f) args) Q E s := by
  refine C.use B F N X T hk hd hu hp (fun v h' tk' F' N' _ hq => ?_)
  obtain ⟨t, rfl⟩ := hq
  exact hQ t h' tk' F' N'
theorem CallOk.useB {b : Bool} (C : CallOk w f args dep pre (RetBool b))
    (B : Below (Ar dp un gd outer) base outer h₀) (F : Fr h₀ L s.heap m) (N : News h₀ L s.heap news) (X : (hd.heap_39 w.params).In h₀) (T : Top hd.view_39 (looseW hd.view_39 []) mean mg mb h₀) (hk : cs.kind = .function)
    (hd : dp + 1 + dep < recursionLimit) (hu : un' + 8 * dep < cLine) (hp : pre s.heap)
    (hQ : ∀ h' tk', Fr h₀ L h' m → News h₀ L h' news → Q (.bool b) { s with heap := h', toks := tk' }) :
    wpAny (model RR.row.prog w) (Ar (dp + 1) un' gd (envX cn cs L a ccd cl :: outer)) (call (.ref f) args) Q E s := by
  refine C.use B F N X T hk hd hu hp (fun v h' tk' F' N' _ hq => ?_)
  have e : v = .bool b := hq
  subst e
  exact hQ h' tk' F' N'
theorem CallOk.useN (C : CallOk w f args dep pre (fun _ v _ => v = .none))
    (B : Below (Ar dp un gd outer) base outer h₀) (F : Fr h₀ L s.heap m) (N : News h₀ L s.heap news) (X : (hd.heap_39 w.params).In h₀) (T : Top hd.view_39 (looseW hd.view_39 []) mean mg mb h₀) (hk : cs.kind = .function)
    (hd : dp + 1 + dep < recursionLimit) (hu : un' + 8 * dep < cLine) (hp : pre s.heap)
    (hQ : ∀ h' tk', Fr h₀ L h' m → News h₀ L h' news → Q .none { s with heap := h', toks := tk' }) :
    wpAny (model RR.row.prog w) (Ar (dp + 1) un' gd (envX cn cs L a ccd cl :: outer)) (call (.ref f) args) Q E s := by
  refine C.use B F N X T hk hd hu hp (fun v h' tk' F' N' _ hq => ?_)
  have e : v = .none := hq
  subst e
  exact hQ h' tk' F' N'
theorem CallOk.weaken {post : Heap → Value → Heap → Prop} {dep' : Nat} (C : CallOk w f args dep pre post) (h : dep ≤ dep') : CallOk w f args dep' pre post := by
  intro mean mg mb dp un gd outer base s Q E X T hd hu B hp hQ
  exact C mean mg mb dp un gd outer base s Q E X T (by omega) (by omega) B hp hQ
end
end Mine
end

section
open PySem PySem.W PyProof.Rows PySem.Calls PySem.Spec
namespace Mine
/-! facts of addresses, hidden from omega; depth and units by lemmas: small proofs -/
def NEs (r : Nat) (l : List (Addr × Obj)) : Prop := ∀ p ∈ l, p.1 ≠ r
def LtAll (d : Nat) (l : List (Addr × Obj)) : Prop := ∀ p ∈ l, @LT.lt Nat _ p.1 d
theorem NEs.l {a b : Nat} {o : Obj} {l : List (Addr × Obj)} (h : NEs b l) (m : (a, o) ∈ l) : @Ne Nat a b := h _ m
theorem NEs.r {a b : Nat} {o : Obj} {l : List (Addr × Obj)} (h : NEs b l) (m : (a, o) ∈ l) : @Ne Nat b a := Ne.symm (h _ m)
theorem LtAll.l {a b : Nat} {o : Obj} {l : List (Addr × Obj)} (h : LtAll b l) (m : (a, o) ∈ l) : @Ne Nat a b := Nat.ne_of_lt (h _ m)
theorem LtAll.r {a b : Nat} {o : Obj} {l : List (Addr × Obj)} (h : LtAll b l) (m : (a, o) ∈ l) : @Ne Nat b a := Nat.ne_of_gt (h _ m)
theorem LtAll.lt {a b : Nat} {o : Obj} {l : List (Addr × Obj)} (h : LtAll b l) (m : (a, o) ∈ l) : @LT.lt Nat _ a b := h _ m
theorem LtAll.succ {d : Nat} {l : List (Addr × Obj)} (h : LtAll d l) : LtAll (d + 1) l := fun p hp => Nat.lt_succ_of_lt (h p hp)
theorem LtAll.of {d : Addr} {l : List (Addr × Obj)} (h : ∀ p ∈ l, p.1 < d) : LtAll d l := h
theorem NEs.of {d : Addr} {l : List (Addr × Obj)} (h : ∀ p ∈ l, p.1 ≠ d) : NEs d l := h
theorem LtAll.nes {d : Nat} {l : List (Addr × Obj)} (h : LtAll d l) : NEs d l := fun p hp => Nat.ne_of_lt (h p hp)
theorem NEs.sub {r : Nat} {l l' : List (Addr × Obj)} (h : NEs r l) (hs : ∀ p ∈ l', p ∈ l) : NEs r l' := fun p hp => h p (hs p hp)
theorem NEs.nil {r : Nat} : NEs r [] := fun _ h => nomatch h
theorem NEs.cons {r a : Nat} {o : Obj} {l : List (Addr × Obj)} (h1 : @Ne Nat a r) (h : NEs r l) : NEs r ((a, o) :: l) := fun p hp => by
  rcases List.mem_cons.mp hp with rfl | hp
  · exact h1
  · exact h p hp
theorem NEs.re2 {r a b : Nat} {o o2 o' o2' : Obj} {l : List (Addr × Obj)} (h : NEs r ((a, o) :: (b, o2) :: l)) : NEs r ((a, o') :: (b, o2') :: l) :=
  .cons (h.l (.head _)) (.cons (h.l (.tail _ (.head _))) fun p hp => h p (.tail _ (.tail _ hp)))
theorem nes_off1 {D : Addr} : ∀ {l : List (Addr × Obj)}, LCg.Off1 D l → NEs D l
  | [], _ => fun _ h => nomatch h
  | _ :: l, h => fun x hx => by
    rcases List.mem_cons.mp hx with rfl | hx
    · exact h.1
    · exact nes_off1 (l := l) h.2 x hx
theorem nes_off {I C D : Addr} {l : List (Addr × Obj)} (h : LCg.Off3 I C D l) : NEs I l ∧ NEs C l ∧ NEs D l :=
  ⟨fun p hp => (h.mem p hp).1, fun p hp => (h.mem p hp).2.1, fun p hp => (h.mem p hp).2.2⟩
theorem hdD {dp D dep : Nat} (h : dp + D < recursionLimit) (e : 1 + dep ≤ D) : dp + 1 + dep < recursionLimit := Nat.lt_of_le_of_lt (by rw [Nat.add_assoc]; exact Nat.add_le_add_left e dp) h
theorem hdU {un D dep : Nat} (h : un + 8 * D < cLine) (e : 3 + 8 * dep ≤ 8 * D) : un + 3 + 8 * dep < cLine := Nat.lt_of_le_of_lt (by rw [Nat.add_assoc]; exact Nat.add_le_add_left e un) h
theorem hdV {un D k : Nat} (h : un + 8 * D < cLine) (e : 3 + k ≤ 8 * D) : un + 3 + k < cLine := Nat.lt_of_le_of_lt (by rw [Nat.add_assoc]; exact Nat.add_le_add_left e un) h
/-! small facts of numbers, tried ahead of omega -/
theorem om1 {n k m : Nat} (h : n ≤ k) (e : k < m) : n < m := Nat.lt_of_le_of_lt h e
theorem om2 {n k m : Nat} (h : n < k) (e : k ≤ m) : n < m := Nat.lt_of_lt_of_le h e
theorem om3 {n k m : Nat} (h : n ≤ k) (e : k ≤ m) : n ≤ m := Nat.le_trans h e
theorem om4 {n k m : Nat} (h : n < k) (e : k ≤ m) : n ≤ m := Nat.le_trans (Nat.le_of_lt h) e
theorem om5 {n n' k m : Nat} (h : n = n') (h1 : n' ≤ k) (e : k < m) : n < m := h ▸ Nat.lt_of_le_of_lt h1 e
theorem om6 {n n' k m : Nat} (h : n = n') (h1 : n' ≤ k) (e : k ≤ m) : n ≤ m := h ▸ Nat.le_trans h1 e
theorem om7 (n : Nat) : (-1 + (n : Int)).toNat = n - 1 := (congrArg Int.toNat (Int.add_comm (-1) n)).trans (Int.toNat_sub n 1)
theorem om8 (a b : Nat) : ((a : Int) - (b : Int)).toNat = a - b := Int.toNat_sub a b
theorem om9 (a : Nat) : ((a : Int) - 1).toNat = a - 1 := Int.toNat_sub a 1
theorem om10 (a b : Nat) : ((a : Int) + (b : Int)).toNat = a + b := rfl
theorem om11 {n : Nat} (h : 0 < n) : -(n : Int) ≤ -1 := Int.neg_le_neg (Int.ofNat_le.mpr h)
theorem om12 {n k m : Nat} (h : n ≤ k) (e : k < m) : (n : Int) < (m : Int) := Int.ofNat_lt.mpr (Nat.lt_of_le_of_lt h e)
theorem om13 (n : Nat) : 0 ≤ (n : Int) := Int.natCast_nonneg n
theorem om14 (n : Nat) : n ≠ n + 1 := Nat.ne_of_lt (Nat.lt_succ_self n)
theorem om15 (n : Nat) : n ≠ n + 1 + 1 := Nat.ne_of_lt (Nat.lt_succ_of_lt (Nat.lt_succ_self n))
theorem om16 (n : Nat) : -(2 : Int) ^ 62 ≤ (n : Int) := Int.le_trans (by decide) (Int.natCast_nonneg n)
theorem om17 {n k : Nat} (h : n ≤ k) (e : k < 2 ^ 63) : (n : Int) < 2 ^ 63 := by
  have h1 : (2 : Int) ^ 63 = ((2 ^ 63 : Nat) : Int) := rfl
  rw [h1]
  exact Int.ofNat_lt.mpr (Nat.lt_of_le_of_lt h e)
theorem om18 {n : Nat} {l : List Int} (h : l ≠ []) (e : n = l.length) : 0 < n := e ▸ List.length_pos_iff.mpr h
theorem om19 (n : Nat) : 0 + n = n := Nat.zero_add n
theorem om20 (i : Nat) : ((2 : Int) + (i : Int)).toNat = 2 + i := rfl
theorem om21 (i : Nat) : ((2 : Int) + (i : Int) - 1).toNat = 2 + i - 1 := Int.toNat_sub (2 + i) 1
theorem om22 (i : Nat) : 0 ≤ (2 : Int) + (i : Int) := Int.natCast_nonneg (2 + i)
theorem om23 {n i m : Nat} (h : n = i) (h1 : i < m) : n < m := h ▸ h1
theorem om24 {n i m : Nat} (h : n = i) (h1 : i ≤ m) : n ≤ m := h ▸ h1
theorem om25 (a b : Nat) : 0 ≤ (a : Int) + (b : Int) := Int.natCast_nonneg (a + b)
theorem om26 {j l m : Nat} (h : j + (l + 1) = m) : j + 1 + l = m := by rw [Nat.add_assoc, Nat.add_comm 1 l]; exact h
theorem om27 {n m : Nat} (h : n < m) (e : n' = n) : n' < m := e ▸ h
theorem om28 {a : Int} {k : Nat} (e : a = (k : Int)) : a.toNat = k := e ▸ rfl
theorem om29 {a : Int} {k m : Nat} (e : a = (k : Int)) (h : k ≤ m) : a.toNat ≤ m := e ▸ h
end Mine
end

section
open PySem PySem.W PyProof.Rows PySem.Calls PySem.Spec PyProof.V
namespace Mine
set_option maxRecDepth 100000
section
variable {prog : Program} {w : World} {A : Around} {E : Value → Shared → Prop} {s : Shared} {env : Env} {h₀ : Heap} {target : Expr} {body : List Stmt} {Q : Flow → Shared → Prop}
/-- a for loop by a word over what is left of its items -/
theorem items_inv {ws : List (Addr × String)} {keep : List (Addr × Obj)} (J : List Itm → (Str → Option Value) → List (Addr × Obj) → Prop)
    (step : ∀ a r m news, J (a :: r) m news → ∀ v h tk, a.Is v h → Fr h₀ env.locals h m → AllObj ws (fun its => News h₀ env.locals h (its ++ news) →
      wpAny (model prog w) A (assign target env v) (fun _ s₂ => wpAny (model prog w) A (execs body env) (UnrPostW h₀ env.locals { s with heap := h, toks := tk } its (fun m' n' => SubL keep n' ∧ J r m' n') Q) E s₂) E { s with heap := h, toks := tk }))
    (done : ∀ m news, J [] m news → ∀ h tk, Fr h₀ env.locals h m → News h₀ env.locals h news → Q .next { s with heap := h, toks := tk }) :
    ∀ xs m news, J xs m news → ItemsRest prog w A E h₀ env target body Q s ws keep xs m news
  | [], m, news, hJ => ItemsRest.zero (done m news hJ)
  | a :: r, m, news, hJ => by
    intro v h tk ha F
    have mono : ∀ (ws : List (Addr × String)) {k k' : List (Addr × Obj) → Prop}, (∀ its, k its → k' its) → AllObj ws k → AllObj ws k' := by
      intro ws
      induction ws with
      | nil => intro k k' hk h; exact hk _ h
      | cons p r ih => intro k k' hk h o ho; exact ih (fun its => hk ((p.1, o) :: its)) (h o ho)
    refine mono ws (fun its hk N => ?_) (step a r m news hJ v h tk ha F)
    refine wpAny_mono (hk N) (fun _ s₂ h₂ => wpAny_mono h₂ (fun f s₃ p => ?_) fun _ _ e => e) fun _ _ e => e
    have up : UnrEndW h₀ env.locals { s with heap := h, toks := tk } its (fun m' n' => SubL keep n' ∧ J r m' n') s₃ →
        UnrEndW h₀ env.locals { s with heap := h, toks := tk } its (fun m' n' => SubL keep n' ∧ ItemsRest prog w A E h₀ env target body Q s ws keep r m' n') s₃ := by
      rintro ⟨h', tk', m', news', e, F', N', ho, hk', j⟩
      exact ⟨h', tk', m', news', e, F', N', ho, hk', items_inv J step done r m' news' j⟩
    cases f with
    | ret v => exact p
    | brk => exact p
    | next => exact up p
    | cont => exact up p
/-- where a list lies: among the new things or below -/
def LiesAt (h₀ : Heap) (news keep : List (Addr × Obj)) (ax : Addr) (vs : List Value) : Prop :=
  (keep = [] ∧ h₀.IsList ax vs.toArray) ∨ ∃ lo n, keep = [(ax, lo)] ∧ (ax, lo) ∈ news ∧ lo.cls = .type "list" ∧ lo.data = .seq vs.toArray n
theorem iter_list {ax : Addr} {vs : List Value} {m₀ : Str → Option Value} {news keep : List (Addr × Obj)}
    (hh : A.handled = none) (F : Fr h₀ env.locals s.heap m₀) (N : News h₀ env.locals s.heap news) (hl : LiesAt h₀ news keep ax vs)
    (rest : ∀ I : Addr, (∀ p ∈ news, p.1 < I) → ItemsRest prog w A E h₀ env target body Q s [(I, "list_iterator")] keep (vs.map .val) m₀ news) :
    wpAny (model prog w) A (pyIter (.ref ax)) (fun it s₂ => TurnsAt prog w A h₀ env target body Q E it s₂) E s := by
  rcases hl with ⟨rfl, hl⟩ | ⟨lo, n, rfl, hm, hc, hd⟩
  · have hs : s.heap.IsList ax vs.toArray := hl.at fun o e => F.keep ax o e
    obtain ⟨lo, hlo, _⟩ := id hl
    have hlt : ax < s.heap.objs.size := Heap.lt_size (F.keep _ _ hlo)
    refine wpAny_pyIter_list hs ?_
    refine ktg_core (tk0 := s.toks) (keep := []) (KTurns.ofWalks (Walks.list hh s.heap.objs.size ax (Nat.ne_of_lt hlt) vs.toArray) fun i v s Q E st q => letGo_listiter st.1 q) (by simp) (fun i v h hp => ⟨.val v, by have hp' : vs.toArray[i]? = some v := hp; simpa using hp', rfl⟩) ?_ ?_ (fun b hb => by simpa using hb) ?_ ?_ ?_ ?_ (F.push _) (fun p hp => ⟨Heap.get?_push_of_some _ (N p hp).1, (N p hp).2⟩) trivial (rest _ fun p hp => Heap.lt_size (N p hp).1)
    · intro i h st
      obtain ⟨it, hit, hic, _⟩ := st.1
      exact ⟨[(s.heap.objs.size, it)], ⟨⟨rfl, hic⟩, trivial⟩, fun p hp => by rw [List.mem_singleton.mp hp]; exact hit⟩
    · intro b hb
      have hb' : b = s.heap.objs.size := by simpa using hb
      rw [hb']
      exact ⟨List.mem_cons_self .., next_is_new F⟩
    · intro b hb
      rcases List.mem_cons.mp hb with e | hb
      · exact .inl (by simp [e])
      · exact .inr (.inr ⟨lo, by rw [List.mem_singleton.mp hb]; exact hlo⟩)
    · intro hI
      rcases List.mem_cons.mp hI with e | hI
      · exact absurd F.ns.lt (e ▸ Nat.lt_irrefl _)
      · have e : env.locals = ax := List.mem_singleton.mp hI
        exact absurd (Heap.lt_size hlo) (Nat.not_lt.mpr (e ▸ F.above))
    · intro p hp hI
      exact absurd (Heap.lt_size (N p hp).1) ((List.mem_singleton.mp hI) ▸ Nat.lt_irrefl _)
    · exact ⟨⟨_, Heap.get?_push_size _ rfl, rfl, rfl⟩, hs.at fun o e => Heap.get?_push_of_some _ e⟩
  · exact iter_listTurns hh F N hm hc hd rest
theorem letGo_range {I : Addr} {i : Int} {l : Int} {v : Value} {Q' : Unit → Shared → Prop} {s' : Shared} (hit : IsRangeIter s'.heap I i l 1) (h : Q' () s') :
    wpAny (model prog w) A (letOwnedTupleGo target (.ref I) v) Q' E s' := by
  unfold letOwnedTupleGo
  cases target <;> first
    | exact wpAny_pure h
    | (cases v <;> first
        | exact wpAny_pure h
        | exact wpAny_bind (wpAny_load hit (wpAny_pure h)))
def rangeItems (a : Int) (n : Nat) : List Itm := (List.range n).map fun (i : Nat) => Itm.tok fun t => .int (a + (i : Int)) t
theorem iter_range {r : Addr} {a b : Int} {t u v : Tok} {n : Nat} {m₀ : Str → Option Value} {news : List (Addr × Obj)}
    (hh : A.handled = none) (F : Fr h₀ env.locals s.heap m₀) (N : News h₀ env.locals s.heap news) (hr : IsRange s.heap r a b 1 t u v) (hsm : Builtin.Range.small a b 1 = true) (hn : Builtin.Range.rangeSize a b 1 = (n : Int))
    (rest : ∀ I : Addr, (∀ p ∈ news, p.1 < I) → ItemsRest prog w A E h₀ env target body Q s [(I, "range_iterator")] [] (rangeItems a n) m₀ news) :
    wpAny (model prog w) A (pyIter (.ref r)) (fun it s₂ => TurnsAt prog w A h₀ env target body Q E it s₂) E s := by
  refine wpAny_pyIter_range hr hsm ?_
  refine ktg_core (tk0 := s.toks) (keep := []) (KTurns.ofWalks ((Walks.range hh s.heap.objs.size a 1 n).bound) fun i v s Q E st q => letGo_range st q) (by simp [rangeItems]) ?_ ?_ ?_ (fun b hb => by simpa using hb) ?_ ?_ ?_ ?_ (F.push _) (fun p hp => ⟨Heap.get?_push_of_some _ (N p hp).1, (N p hp).2⟩) trivial (rest _ fun p hp => Heap.lt_size (N p hp).1)
  · rintro i v h ⟨hi, t, rfl⟩
    refine ⟨Itm.tok fun t => .int (a + (i : Int)) t, by simp [rangeItems, hi], t, ?_⟩
    rw [Int.mul_one]
  · intro i h st
    exact ⟨[(s.heap.objs.size, _)], ⟨⟨rfl, rfl⟩, trivial⟩, fun p hp => by rw [List.mem_singleton.mp hp]; exact st⟩
  · intro b hb
    have hb' : b = s.heap.objs.size := by simpa using hb
    rw [hb']
    exact ⟨List.mem_cons_self .., next_is_new F⟩
  · intro b hb
    exact .inl (by simpa using hb)
  · intro hI
    exact absurd F.ns.lt ((List.mem_singleton.mp hI) ▸ Nat.lt_irrefl _)
  · intro p hp hI
    exact absurd (Heap.lt_size (N p hp).1) ((List.mem_singleton.mp hI) ▸ Nat.lt_irrefl _)
  · show IsRangeIter _ _ _ _ _
    rw [hn]
    simpa using Heap.get?_push_size _ rfl
theorem enum_list {elts : List Expr} {k : Nat} {pos : Pos} {l : Addr} {vs : List Value} {m₀ : Str → Option Value} {news keep : List (Addr × Obj)}
    (hh : A.handled = none) (F : Fr h₀ env.locals s.heap m₀) (N : News h₀ env.locals s.heap news) (hl : LiesAt h₀ news keep l vs)
    (rest : ∀ I : Addr, (∀ p ∈ news, p.1 < I) → ItemsRest prog w A E h₀ env (.Tuple elts k pos) body Q s [(I + 1, "enumerate"), (I, "list_iterator")] keep (enumItems 0 vs) m₀ news) :
    wpAny (model prog w) A (call (.type "enumerate") [.ref l]) (fun xv s₁ => wpAny (model prog w) A (pyIter xv) (fun it s₂ => TurnsAt prog w A h₀ env (.Tuple elts k pos) body Q E it s₂) E s₁) E s := by
  rcases hl with ⟨rfl, hl⟩ | ⟨lo, n, rfl, hm, hc, hd⟩
  · have hs : s.heap.IsList l vs.toArray := hl.at fun o e => F.keep l o e
    obtain ⟨lo, hlo, _⟩ := id hl
    have hlt : l < s.heap.objs.size := Heap.lt_size (F.keep _ _ hlo)
    have hLs : env.locals < s.heap.objs.size := F.ns.lt
    refine call_enumerate_list hs fun h' hE hI hsz hk => ?_
    refine wpAny_pyIter_enum hE ?_
    have mem2 : ∀ {b : Nat}, b ∈ [s.heap.objs.size + 1, s.heap.objs.size] → b = s.heap.objs.size + 1 ∨ b = s.heap.objs.size := fun hb => by simpa using hb
    refine ktg_core (tk0 := s.toks) (keep := []) (KTurns.ofWalksU (WalksT.enumerate hh (s.heap.objs.size + 1) s.heap.objs.size l (Nat.succ_ne_self _) (ktu_ne 1 hlt) (Nat.ne_of_lt hlt) vs.toArray).toU) (by simp [enumItems_length]) ?_ ?_ ?_ ?_ ?_ ?_ ?_ ?_ (F.keeps hk) (N.grown hk) trivial (rest _ fun p hp => Heap.lt_size (N p hp).1)
    · rintro i v h ⟨T, vals, rfl, ⟨t, x, hx, rfl⟩, hT⟩
      refine ⟨_, enumItems_get vs 0 i (v := x) (by simpa using hx), T, t, rfl, ?_⟩
      show IsTup h T #[.int ((0 + i : Nat) : Int) t, x]
      rw [Nat.zero_add]
      exact hT
    · rintro i h ⟨⟨old, he⟩, ⟨oi, hoi, hic, _⟩, _⟩
      obtain ⟨oe, h1, h2⟩ : ∃ oe : Obj, h.get? (s.heap.objs.size + 1) = some oe ∧ oe.cls = .type "enumerate" := ⟨_, he, rfl⟩
      refine ⟨[(s.heap.objs.size + 1, oe), (s.heap.objs.size, oi)], ⟨⟨rfl, h2⟩, ⟨rfl, hic⟩, trivial⟩, fun p hp => ?_⟩
      rcases List.mem_cons.mp hp with rfl | hp
      · exact h1
      · rw [List.mem_singleton.mp hp]; exact hoi
    · intro b hb
      rcases mem2 hb with rfl | rfl
      · exact ⟨by simp, ktu_new F (Nat.le_add_right _ _)⟩
      · exact ⟨by simp, ktu_new F (Nat.le_refl _)⟩
    · intro b hb
      simpa using hb
    · intro b hb
      have hb' : b = s.heap.objs.size + 1 ∨ b = s.heap.objs.size ∨ b = l := by simpa using hb
      rcases hb' with rfl | rfl | rfl
      · exact .inl (by simp)
      · exact .inl (by simp)
      · exact .inr (.inr ⟨lo, hlo⟩)
    · intro hI'
      have hb' : env.locals = s.heap.objs.size + 1 ∨ env.locals = s.heap.objs.size ∨ env.locals = l := by simpa using hI'
      rcases hb' with e | e | e
      · exact ktu_ne 1 hLs e
      · exact Nat.ne_of_lt hLs e
      · exact absurd (Heap.lt_size hlo) (Nat.not_lt.mpr (e ▸ F.above))
    · intro p hp hI'
      have hlp := Heap.lt_size (N p hp).1
      rcases mem2 hI' with e | e
      · exact ktu_ne 1 hlp e
      · exact Nat.ne_of_lt hlp e
    · exact ⟨⟨.none, hE⟩, hI, hs.at fun o e => hk l o e⟩
  · exact ktu_enum hh F N hm hc hd rfl rest
theorem kst_is {ps : List (Str × Value)} {stored : List Str} {m₀ m₁ : Str → Option Value} (h1 : ∀ p ∈ ps, m₁ p.1 = some p.2) (h2 : ∀ z, (∀ p ∈ ps, z ≠ p.1) → stored.contains z = false → m₁ z = m₀ z) :
    m₁ = kstB (fun z => if stored.contains z then m₁ z else m₀ z) ps := by
  funext z
  refine (kstB_eq h1 fun hn => ?_).symm
  show (if stored.contains z = true then m₁ z else m₀ z) = m₁ z
  cases h3 : stored.contains z with
  | true => simp
  | false => simp only [Bool.false_eq_true, if_false]; exact (h2 z hn h3).symm
def ForNext {σ : Type} (keep : List (Addr × Obj)) (Led : σ → List (Addr × Obj)) (ps : σ → List (Str × Value)) (stored : List Str) (m₀ : Str → Option Value) (P : List Itm → σ → Prop) (r : List Itm) (m' : Str → Option Value) (n' : List (Addr × Obj)) : Prop :=
  SubL keep n' ∧ ∃ c' : σ, n' = Led c' ∧ (∀ p ∈ ps c', m' p.1 = some p.2) ∧ (∀ z, (∀ p ∈ ps c', z ≠ p.1) → stored.contains z = false → m' z = m₀ z) ∧ P r c'
/-- a for loop whose turns change the names ps, the things Led; the names stored are forgotten -/
theorem for_st {σ : Type} {ws : List (Addr × String)} {keep : List (Addr × Obj)} {m₀ : Str → Option Value} (Led : σ → List (Addr × Obj)) (ps : σ → List (Str × Value)) (stored : List Str) (P : List Itm → σ → Prop) (c₀ : σ) {xs : List Itm}
    (hk : ∀ p ∈ ps c₀, m₀ p.1 = some p.2) (hp : P xs c₀)
    (step : ∀ a r c (u : Str → Option Value) v h tk, P (a :: r) c → a.Is v h → Fr h₀ env.locals h (kstB (fun z => if stored.contains z then u z else m₀ z) (ps c)) → AllObj ws (fun its => News h₀ env.locals h (its ++ Led c) →
      wpAny (model prog w) A (assign target env v) (fun _ s₂ => wpAny (model prog w) A (execs body env) (UnrPostW h₀ env.locals { s with heap := h, toks := tk } its (ForNext keep Led ps stored m₀ P r) Q) E s₂) E { s with heap := h, toks := tk }))
    (done : ∀ c (u : Str → Option Value) h tk, P [] c → Fr h₀ env.locals h (kstB (fun z => if stored.contains z then u z else m₀ z) (ps c)) → News h₀ env.locals h (Led c) → Q .next { s with heap := h, toks := tk }) :
    ItemsRest prog w A E h₀ env target body Q s ws keep xs m₀ (Led c₀) := by
  refine items_inv (fun r m news => ∃ c, ∃ u : Str → Option Value, m = kstB (fun z => if stored.contains z then u z else m₀ z) (ps c) ∧ news = Led c ∧ P r c) ?_ ?_ xs m₀ (Led c₀) ⟨c₀, m₀, kst_is hk (fun _ _ _ => rfl), rfl, hp⟩
  · rintro a r m news ⟨c, u, rfl, rfl, hP⟩ v h tk ha F
    have mono : ∀ (ws : List (Addr × String)) {k k' : List (Addr × Obj) → Prop}, (∀ its, k its → k' its) → AllObj ws k → AllObj ws k' := by
      intro ws
      induction ws with
      | nil => intro k k' hk h; exact hk _ h
      | cons p r ih => intro k k' hk h o ho; exact ih (fun its => hk ((p.1, o) :: its)) (h o ho)
    refine mono ws (fun its hk N => ?_) (step a r c u v h tk hP ha F)
    refine wpAny_mono (hk N) (fun _ s₂ h₂ => wpAny_mono h₂ (fun f s₃ p => ?_) fun _ _ e => e) fun _ _ e => e
    have up : UnrEndW h₀ env.locals { s with heap := h, toks := tk } its (ForNext keep Led ps stored m₀ P r) s₃ →
        UnrEndW h₀ env.locals { s with heap := h, toks := tk } its (fun m' n' => SubL keep n' ∧ ∃ c, ∃ u : Str → Option Value, m' = kstB (fun z => if stored.contains z then u z else m₀ z) (ps c) ∧ n' = Led c ∧ P r c) s₃ := by
      rintro ⟨h', tk', m', news', e, F', N', ho, hk', c', rfl, h1, h2, hP'⟩
      exact ⟨h', tk', m', _, e, F', N', ho, hk', c', m', kst_is h1 h2, rfl, hP'⟩
    cases f with
    | ret v => exact p
    | brk => exact p
    | next => exact up p
    | cont => exact up p
  · rintro m news ⟨c, u, rfl, rfl, hP⟩ h tk F N
    exact done c u h tk hP F N
theorem for_end {σ : Type} {L : Addr} {s₁ : Shared} {keep : List (Addr × Obj)} {Led : σ → List (Addr × Obj)} {ps : σ → List (Str × Value)} {stored : List Str} {m₀ : Str → Option Value} {P : List Itm → σ → Prop} {r : List Itm} {its : List (Addr × Obj)} {h' : Heap} {tk : Nat} {m' : Str → Option Value} {all : List (Addr × Obj)} (c' : σ)
    (F : Fr h₀ L h' m') (N : News h₀ L h' all) (hI : SubL its all) (sub : SubL (Led c') all) (off : OffW its (Led c')) (hkeep : SubL keep (Led c')) (hk : ∀ p ∈ ps c', m' p.1 = some p.2) (hr : ∀ z, (∀ p ∈ ps c', z ≠ p.1) → stored.contains z = false → m' z = m₀ z) (hp : P r c') :
    UnrEndW h₀ L s₁ its (ForNext keep Led ps stored m₀ P r) { s₁ with heap := h', toks := tk } :=
  UnrEndW.intro F N (Led c') hI sub off ⟨hkeep, c', rfl, hk, hr, hp⟩
end
end Mine
end

section
open PySem PySem.W PyProof.Rows PySem.Calls PySem.Spec PyProof.V
namespace Mine
set_option maxRecDepth 100000
/-- a list lies below or among led -/
def AtL (h₀ : Heap) (led : List (Addr × Obj)) (a : Addr) (vs : List Value) : Prop := h₀.IsList a vs.toArray ∨ ∃ n, (a, lst vs n) ∈ led
theorem AtL.isList {h₀ h : Heap} {L a : Addr} {m : Str → Option Value} {led news : List (Addr × Obj)} {vs : List Value} (x : AtL h₀ led a vs) (F : Fr h₀ L h m) (N : News h₀ L h news) (hs : ∀ p ∈ led, p ∈ news) : h.IsList a vs.toArray := by
  rcases x with x | ⟨n, x⟩
  · exact x.at fun o e => F.keep _ o e
  · exact ⟨_, (N _ (hs _ x)).1, rfl, n, rfl⟩
theorem AtL.new {h₀ h : Heap} {L a : Addr} {m : Str → Option Value} {led : List (Addr × Obj)} {vs : List Value} {n : Nat} (_F : Fr h₀ L h m) (hm : (a, lst vs n) ∈ led) : AtL h₀ led a vs := .inr ⟨n, hm⟩
theorem AtL.mono {h₀ : Heap} {led led' : List (Addr × Obj)} {a : Addr} {vs : List Value} (x : AtL h₀ led a vs) (hs : ∀ p ∈ led, p ∈ led') : AtL h₀ led' a vs :=
  x.imp id fun ⟨n, h⟩ => ⟨n, hs _ h⟩
/-- a list of lists of ints, its parts among led -/
inductive RowsL (led : List (Addr × Obj)) : List Value → List (List Int) → Prop
  | nil : RowsL led [] []
  | cons {r : Addr} {vs : List Value} {n : Nat} {ns : List Int} {rvs : List Value} {rows : List (List Int)} : (r, lst vs n) ∈ led → IntsAre vs ns → RowsL led rvs rows → RowsL led (.ref r :: rvs) (ns :: rows)
theorem RowsL.mono {led led' : List (Addr × Obj)} {rvs : List Value} {rows : List (List Int)} (h : RowsL led rvs rows) (hs : ∀ p ∈ led, p ∈ led') : RowsL led' rvs rows := by
  induction h with
  | nil => exact .nil
  | cons hm hi _ ih => exact .cons (hs _ hm) hi ih
theorem RowsL.snoc {led : List (Addr × Obj)} {rvs : List Value} {rows : List (List Int)} {r : Addr} {vs : List Value} {n : Nat} {ns : List Int} (h : RowsL led rvs rows) (hm : (r, lst vs n) ∈ led) (hi : IntsAre vs ns) : RowsL led (rvs ++ [.ref r]) (rows ++ [ns]) := by
  induction h with
  | nil => exact .cons hm hi .nil
  | cons hm' hi' _ ih => exact .cons hm' hi' ih
theorem RowsL.len {led : List (Addr × Obj)} {rvs : List Value} {rows : List (List Int)} (h : RowsL led rvs rows) : rvs.length = rows.length := by
  induction h with
  | nil => rfl
  | cons _ _ _ ih => simp [ih]
theorem RowsL.get {led : List (Addr × Obj)} {rvs : List Value} {rows : List (List Int)} (h : RowsL led rvs rows) : ∀ i (hi : i < rows.length), ∃ r vs n, rvs[i]? = some (.ref r) ∧ (r, lst vs n) ∈ led ∧ IntsAre vs rows[i] := by
  induction h with
  | nil => intro i hi; exact absurd hi (Nat.not_lt_zero _)
  | cons hm hi' _ ih =>
    intro i hi
    cases i with
    | zero => exact ⟨_, _, _, rfl, hm, hi'⟩
    | succ i =>
      obtain ⟨r, vs, n, h1, h2, h3⟩ := ih i (by simpa using hi)
      exact ⟨r, vs, n, by simpa using h1, h2, by simpa using h3⟩
/-- a list of lists of ints lies at a -/
inductive RowsAt (h : Heap) : List Value → List (List Int) → Prop
  | nil : RowsAt h [] []
  | cons {r : Addr} {vs : List Value} {ns : List Int} {rvs : List Value} {rows : List (List Int)} : h.IsList r vs.toArray → IntsAre vs ns → RowsAt h rvs rows → RowsAt h (.ref r :: rvs) (ns :: rows)
def RowAt (a : Addr) (rows : List (List Int)) (h : Heap) : Prop := ∃ rvs, h.IsList a rvs.toArray ∧ RowsAt h rvs rows
theorem RowsAt.of {h₀ h : Heap} {L : Addr} {news led : List (Addr × Obj)} {rvs : List Value} {rows : List (List Int)} (x : RowsL led rvs rows) (N : News h₀ L h news) (hs : ∀ p ∈ led, p ∈ news) : RowsAt h rvs rows := by
  induction x with
  | nil => exact .nil
  | cons hm hi _ ih => exact .cons ⟨_, (N _ (hs _ hm)).1, rfl, _, rfl⟩ hi ih
theorem RowsAt.keeps {h h' : Heap} {rvs : List Value} {rows : List (List Int)} (x : RowsAt h rvs rows) (k : Keeps h h') : RowsAt h' rvs rows := by
  induction x with
  | nil => exact .nil
  | cons hm hi _ ih => exact .cons (hm.at fun o e => k _ o e) hi ih
theorem RowsAt.len {h : Heap} {rvs : List Value} {rows : List (List Int)} (x : RowsAt h rvs rows) : rvs.length = rows.length := by
  induction x with
  | nil => rfl
  | cons _ _ _ ih => simp [ih]
theorem RowsAt.get {h : Heap} {rvs : List Value} {rows : List (List Int)} (x : RowsAt h rvs rows) : ∀ i (hi : i < rows.length), ∃ r vs, rvs[i]? = some (.ref r) ∧ h.IsList r vs.toArray ∧ IntsAre vs rows[i] := by
  induction x with
  | nil => intro i hi; exact absurd hi (Nat.not_lt_zero _)
  | cons hm hi' _ ih =>
    intro i hi
    cases i with
    | zero => exact ⟨_, _, rfl, hm, hi'⟩
    | succ i =>
      obtain ⟨r, vs, h1, h2, h3⟩ := ih i (by simpa using hi)
      exact ⟨r, vs, by simpa using h1, h2, by simpa using h3⟩
/-- a new list of new lists of ints comes back -/
def RetRows (rows : List (List Int)) (h : Heap) (v : Value) (h' : Heap) : Prop :=
  ∃ R rvs n led, v = .ref R ∧ h.get? R = none ∧ h'.get? R = some (lst rvs n) ∧ RowsL led rvs rows ∧ ∀ p ∈ led, h.get? p.1 = none ∧ h'.get? p.1 = some p.2
theorem News.puts {h₀ h h' : Heap} {L : Addr} {m : Str → Option Value} {news : List (Addr × Obj)} (F : Fr h₀ L h m) (N : News h₀ L h' news) : ∀ {led : List (Addr × Obj)}, (∀ p ∈ led, h.get? p.1 = none ∧ h'.get? p.1 = some p.2) → News h₀ L h' (led ++ news)
  | [], _ => N
  | q :: r, hl => by
    have h1 := hl q (.head _)
    exact News.put F (News.puts F N fun p hp => hl p (.tail _ hp)) h1.1 h1.2
section
variable {prog : Program} {w : World} {A : Around} {E : Value → Shared → Prop} {s : Shared}
theorem item_row_neg {value slice : Expr} {l : Addr} {rvs : List Value} {rows : List (List Int)} {led : List (Addr × Obj)} {u : Tok} {Q : Value → Shared → Prop} (hl : s.heap.IsList l rvs.toArray) (hr : RowsL led rvs rows) (hne : rows ≠ [])
    (h : ∀ r vs n, (r, lst vs n) ∈ led → IntsAre vs (rows.getLastD []) → Q (.ref r) s)
    (hs : subscripted slice false (.ref l) (.int (-1) u) = operate [.ref l, .int (-1) u] (getItem (.ref l) (.int (-1) u)) := by with_unfolding_all rfl) :
    wpAny (model prog w) A (subscriptTail value slice (.ref l) (.int (-1) u)) Q E s := by
  have hlen := hr.len
  have h0 := List.length_pos_iff.mpr hne
  have hsz : rvs.toArray.size = rows.length := by simp [hlen]
  obtain ⟨r, vs, n, h1, h2, h3⟩ := hr.get (rows.length - 1) (by omega)
  have e : rows[rows.length - 1]'(by omega) = rows.getLastD [] := by
    rw [List.getLastD_eq_getLast?, List.getLast?_eq_getElem?, List.getElem?_eq_getElem (by omega)]
    rfl
  rw [e] at h3
  refine subscriptTail_builtinR hl.typeIs slot_list_getitem.lookup (wpAny_getItem_list_neg (x := .ref r) (Q := fun v s' => v = .ref r ∧ Q v s') hl (by decide) (by rw [hsz]; omega) (by decide) ?_ ⟨rfl, h r vs n h2 h3⟩) hs
  rw [hsz]
  have e2 : (-1 + (rows.length : Int)).toNat = rows.length - 1 := by omega
  rw [e2]
  simpa using h1
end
theorem CallOk.useR {w : World} {f : Addr} {args : List Value} {dep : Nat} {pre : Heap → Prop} {mean : ExcName → Option Value} {mg mb : Str → Option Value} {dp un un' : Nat} {gd : Option (List Code)} {outer : List Env} {base h₀ : Heap} {L a : Addr} {m : Str → Option Value} {news : List (Addr × Obj)} {s : Shared} {Q E : Value → Shared → Prop}
    {cn : Str} {cs : Scope} {ccd : Value} {cl : List (Str × Addr)} {rows : List (List Int)} (C : CallOk w f args dep pre (RetRows rows))
    (B : Below (Ar dp un gd outer) base outer h₀) (F : Fr h₀ L s.heap m) (N : News h₀ L s.heap news) (X : (hd.heap_39 w.params).In h₀) (T : Top hd.view_39 (looseW hd.view_39 []) mean mg mb h₀) (hk : cs.kind = .function)
    (hd : dp + 1 + dep < recursionLimit) (hu : un' + 8 * dep < cLine) (hp : pre s.heap)
    (hQ : ∀ R rvs n led h' tk', Fr h₀ L h' m → News h₀ L h' ((R, lst rvs n) :: (led ++ news)) → RowsL led rvs rows → (∀ p ∈ news, p.1 ≠ R) → Q (.ref R) { s with heap := h', toks := tk' }) :
    wpAny (model RR.row.prog w) (Ar (dp + 1) un' gd (envX cn cs L a ccd cl :: outer)) (call (.ref f) args) Q E s := by
  refine C.use B F N X T hk hd hu hp (fun v h' tk' F' N' _ hq => ?_)
  obtain ⟨R, rvs, n, led, rfl, h1, h2, h3, h4⟩ := hq
  exact hQ R rvs n led h' tk' F' (News.put F (News.puts F N' h4) h1 h2) h3 (fun p hp e => by have := (N p hp).1; rw [e, h1] at this; cases this)
theorem look2 {x y : Str} {u v : Value} (hxy : x ≠ y) (z : Str) : List.lookup z [(x, u), (y, v)].reverse = kstB (fun _ => none) [(x, u), (y, v)] z := by
  show (match z == y with | true => some v | false => match z == x with | true => some u | false => none) = if z = x then some u else if z = y then some v else none
  by_cases h1 : z = x
  · subst h1
    rw [if_pos rfl, beq_eq_false_iff_ne.mpr hxy]
    simp
  · rw [if_neg h1, beq_eq_false_iff_ne.mpr h1]
    by_cases h2 : z = y
    · subst h2; simp
    · rw [if_neg h2, beq_eq_false_iff_ne.mpr h2]
theorem swap2 {x y : Str} {u v u' v' : Value} (hxy : x ≠ y) : (fun z => if z = x then some u' else if z = y then some v' else List.lookup z [(x, u), (y, v)].reverse) = kstB (fun _ => none) [(x, u'), (y, v')] := by
  funext z
  rw [look2 hxy]
  show (if z = x then some u' else if z = y then some v' else if z = x then some u else if z = y then some v else none) = if z = x then some u' else if z = y then some v' else none
  by_cases h1 : z = x
  · rw [if_pos h1, if_pos h1]
  · rw [if_neg h1, if_neg h1, if_neg h1]
    by_cases h2 : z = y
    · rw [if_pos h2, if_pos h2]
    · rw [if_neg h2, if_neg h2, if_neg h2]
theorem Fr.as {h₀ h : Heap} {L : Addr} {m m' : Str → Option Value} (F : Fr h₀ L h m) (e : m = m') : Fr h₀ L h m' := e ▸ F
end Mine
end

section
open PySem PySem.W PyProof.Rows PySem.Calls PySem.Spec PyProof.V
namespace Mine
set_option maxRecDepth 100000
/-- the law's box: a list of ints, a count -/
abbrev boxO (q : Addr) (k : Int) (t : Tok) (n : Nat) : Obj := lst [.ref q, .int k t] n
abbrev Hid (h : Heap) (B q : Addr) : Heap := hideAll h [B, q]
/-- a call that draws from the box -/
def DrawOk (w : World) (f : Addr) (args : Addr → List Value) (dep : Nat) (k : Int) (ns : List Int) (k' : Int) (ns' : List Int) (post : Heap → Value → Heap → Prop) : Prop :=
  ∀ (mean : ExcName → Option Value) (mg mb : Str → Option Value) (dp un : Nat) (gd : Option (List Code)) (outer : List Env) (base : Heap) (s : Shared) (Q E : Value → Shared → Prop) (B q : Addr) (t : Tok) (n : Nat) (us : List Value) (n2 : Nat),
    (hd.heap_39 w.params).In (Hid s.heap B q) → Top hd.view_39 (looseW hd.view_39 []) mean mg mb (Hid s.heap B q) → dp + dep < recursionLimit → un + 8 * dep < cLine →
    Below (Ar dp un gd outer) base outer (Hid s.heap B q) → s.heap.get? B = some (boxO q k t n) → s.heap.get? q = some (lst us n2) → IntsAre us ns → B ≠ q →
    (∀ v h' tk' t' n' us' n2', (∀ b o, b ≠ B → b ≠ q → s.heap.get? b = some o → h'.get? b = some o) → h'.get? B = some (boxO q k' t' n') → h'.get? q = some (lst us' n2') → IntsAre us' ns' → post s.heap v h' → Q v { s with heap := h', toks := tk' }) →
    wpAny (model RR.row.prog w) (Ar dp un gd outer) (call (.ref f) (args B)) Q E s
/-- the end of a drawing def's body -/
def DoneD (s : Shared) (B q : Addr) (k' : Int) (ns' : List Int) (post : Heap → Value → Heap → Prop) (v : Value) (s' : Shared) : Prop :=
  ∃ h' tk' t' n' us' n2', s' = { s with heap := h', toks := tk' } ∧ (∀ b o, b ≠ B → b ≠ q → s.heap.get? b = some o → h'.get? b = some o) ∧ h'.get? B = some (boxO q k' t' n') ∧ h'.get? q = some (lst us' n2') ∧ IntsAre us' ns' ∧ post s.heap v h'
theorem DoneD.of {s : Shared} {B q L : Addr} {k' : Int} {ns' : List Int} {post : Heap → Value → Heap → Prop} {m : Str → Option Value} {h' : Heap} {tk' : Nat} {v : Value} {t' : Tok} {n' n2' : Nat} {us' : List Value} {news : List (Addr × Obj)}
    (F : Fr (Hid s.heap B q) L h' m) (N : News (Hid s.heap B q) L h' news) (h1 : (B, boxO q k' t' n') ∈ news) (h2 : (q, lst us' n2') ∈ news) (hi : IntsAre us' ns') (hp : post s.heap v h') : DoneD s B q k' ns' post v { s with heap := h', toks := tk' } :=
  ⟨h', tk', t', n', us', n2', rfl, fun b o hB hq e => F.keep b o (hideAll_get _ e (by simp [hB, hq])), (N _ h1).1, (N _ h2).1, hi, hp⟩
theorem hid_none {h : Heap} {B q b : Addr} (hn : h.get? b = none) : (Hid h B q).get? b = none := by
  cases e : (Hid h B q).get? b with
  | none => rfl
  | some o => have := of_hideAll _ e; rw [hn] at this; cases this
theorem enterD {w : World} {f : Addr} {args : Addr → List Value} {dep : Nat} {k k' : Int} {ns ns' : List Int} {post : Heap → Value → Heap → Prop}
    {name qual : Str} {params : Arguments} {body : List Stmt} {scope : Scope} {dV kV doc pm cdv ct oc : Value} {an od : Option Addr} {osl : Array (Option Value)} (binds : Addr → List (Str × Value))
    (ho : (hd.heap_39 w.params).lookup f = some ⟨oc, od, .func (fnOf name qual params body scope dV kV doc pm an cdv ct), osl⟩) (hcd : codeIn (hd.heap_39 w.params) cdv qual = true)
    (hbind : ∀ B s, BindsTo s (fnOf name qual params body scope dV kV doc pm an cdv ct) ⟨args B, []⟩ (binds B))
    (hkind : ∀ B n, ∀ x ∈ binds B, scope.names.lookup x.1 = some .local ∨ (scope.names.lookup x.1 = some .cell ∧ ((cellsFrom n scope.names []).lookup x.1).isSome = true))
    (hnd : ((cellsFrom 0 scope.names []).map (·.1)).Nodup)
    (hco : scope.isCoroutine = false) (hgen : scope.isGenerator = false) (hk : scope.kind = .function)
    (h : ∀ (mean : ExcName → Option Value) (mg mb : Str → Option Value) (dp un : Nat) (gd : Option (List Code)) (s : Shared) (h₁ : Heap) (L tk : Nat) (cells : List (Addr × Obj)) (base : Heap) (outer : List Env) (B q : Addr) (t : Tok) (n : Nat) (us : List Value) (n2 : Nat),
      Fr (Hid s.heap B q) L h₁ (bindL (envX qual scope L f cdv (cellsFrom (L + 1) scope.names [])).kindOf (binds B) fun _ => none) → News (Hid s.heap B q) L h₁ (cells ++ [(B, boxO q k t n), (q, lst us n2)]) →
      CellsAre (bindC (envX qual scope L f cdv (cellsFrom (L + 1) scope.names [])).kindOf (binds B) fun _ => none) (cellsFrom (L + 1) scope.names []) cells → (hd.heap_39 w.params).In (Hid s.heap B q) → Top hd.view_39 (looseW hd.view_39 []) mean mg mb (Hid s.heap B q) →
      Below (Ar dp un gd outer) base outer (Hid s.heap B q) → dp + (dep + 1) < recursionLimit → un + 8 * (dep + 1) < cLine → IntsAre us ns → B ≠ q → B < L → q < L →
      wpAny (model RR.row.prog w) (Ar (dp + 1) (un + 3) gd (envX qual scope L f cdv (cellsFrom (L + 1) scope.names []) :: outer)) (execs body (envX qual scope L f cdv (cellsFrom (L + 1) scope.names [])))
        (fun fl s' => DoneD s B q k' ns' post (match fl with | .ret v => v | _ => .none) s') (fun _ _ => False) { s with heap := h₁, toks := tk }) :
    DrawOk w f args (dep + 1) k ns k' ns' post := by
  intro mean mg mb dp un gd outer base s Q E B q t n us n2 X T hd hu Bl hB hq hi hne hQ
  have st : ∀ b o, (Hid s.heap B q).get? b = some o → s.heap.get? b = some o := fun b o e => of_hideAll _ e
  refine wpAny_call (codeAny_call_function (by show dp < _; omega) (st _ _ (X _ _ ho)) rfl hco hgen rfl (codeRec_of (X.keeps st) hcd) (hbind _ _ _ _ _ _ ?_))
  refine wpAny_newFunctionEnv_cells hk (hkind _ _) fun env' he s' x => ?_
  subst he
  refine ⟨(T.nolimit.keeps st).keeps x.toInCall.keep, codeAny_func ?_⟩
  obtain ⟨h₁, tk, rfl, _⟩ := x.done
  have hk₁ := x.toInCall.keep
  obtain ⟨cells, NC, Y⟩ := Cl.news (h₀ := s.heap) (Nat.le_refl _) fun n c hm => ⟨x.cell n c (lookup_of_mem_nodup (cellsFrom_names scope.names 0 (s.heap.objs.size + 1) [] [] rfl ▸ hnd) hm), x.above n c hm⟩
  have lB := Heap.lt_size hB
  have lq := Heap.lt_size hq
  refine wpAny_mono (h mean mg mb dp un gd s h₁ s.heap.objs.size tk cells base outer B q t n us n2 ⟨x.toInCall.ns, fun b o e => hk₁ _ _ (st _ _ e), Nat.le_of_eq (hideAll_size _ _)⟩ ?_ Y X T Bl hd hu hi hne lB lq) (fun fl s' hl => ?_) (fun _ _ x => x.elim)
  · intro p hp
    rcases List.mem_append.mp hp with hp | hp
    · exact ⟨(NC p hp).1, (NC p hp).2.1, hid_none (NC p hp).2.2⟩
    · rcases List.mem_cons.mp hp with rfl | hp
      · exact ⟨hk₁ _ _ hB, Nat.ne_of_lt lB, hideAll_none _ (by simp)⟩
      · rw [List.mem_singleton.mp hp]
        exact ⟨hk₁ _ _ hq, Nat.ne_of_lt lq, hideAll_none _ (by simp)⟩
  · obtain ⟨h', tk', t', n', us', n2', rfl, hk', h1, h2, h3, hp⟩ := hl
    exact hQ _ h' tk' t' n' us' n2' hk' h1 h2 h3 hp
/-- a drawing call made in a def's frame -/
theorem DrawOk.use {w : World} {f : Addr} {args : Addr → List Value} {dep : Nat} {k k' : Int} {ns ns' : List Int} {post : Heap → Value → Heap → Prop} (C : DrawOk w f args dep k ns k' ns' post)
    {mean : ExcName → Option Value} {mg mb : Str → Option Value} {dp un un' : Nat} {gd : Option (List Code)} {outer : List Env} {base h₀ : Heap} {L a : Addr} {m : Str → Option Value} {rest : List (Addr × Obj)} {s : Shared} {Q E : Value → Shared → Prop}
    {cn : Str} {cs : Scope} {ccd : Value} {cl : List (Str × Addr)} {Bx q : Addr} {t : Tok} {n n2 : Nat} {us : List Value}
    (B : Below (Ar dp un gd outer) base outer h₀) (F : Fr h₀ L s.heap m) (N : News h₀ L s.heap ((Bx, boxO q k t n) :: (q, lst us n2) :: rest)) (hr : ∀ p ∈ rest, p.1 ≠ Bx ∧ p.1 ≠ q) (hi : IntsAre us ns) (hne : Bx ≠ q)
    (X : (hd.heap_39 w.params).In h₀) (T : Top hd.view_39 (looseW hd.view_39 []) mean mg mb h₀) (hk : cs.kind = .function)
    (hd : dp + 1 + dep < recursionLimit) (hu : un' + 8 * dep < cLine)
    (hQ : ∀ v h' tk' t' n' us' n2', Fr h₀ L h' m → News h₀ L h' ((Bx, boxO q k' t' n') :: (q, lst us' n2') :: rest) → IntsAre us' ns' → post s.heap v h' → (∀ b o, b ≠ Bx → b ≠ q → s.heap.get? b = some o → h'.get? b = some o) → Q v { s with heap := h', toks := tk' }) :
    wpAny (model RR.row.prog w) (Ar (dp + 1) un' gd (envX cn cs L a ccd cl :: outer)) (call (.ref f) (args Bx)) Q E s := by
  have N0 : News h₀ L s.heap [(Bx, boxO q k t n), (q, lst us n2)] := fun p hp => N p (by rcases List.mem_cons.mp hp with rfl | hp; exact .head _; rw [List.mem_singleton.mp hp]; exact .tail _ (.head _))
  obtain ⟨F1, B1, st, _⟩ := groundX (A := Ar (dp + 1) un' gd (envX cn cs L a ccd cl :: outer)) (R := fun _ _ => True) B F N0 rfl rfl hk
  have zB := N _ (.head _)
  have zq := N _ (.tail _ (.head _))
  refine C mean mg mb (dp + 1) un' gd (envX cn cs L a ccd cl :: outer) base s Q E Bx q t n us n2 (X.keeps st) (Top.keeps T st) hd hu B1 zB.1 zq.1 hi hne ?_
  intro v h' tk' t' n' us' n2' hk' h1 h2 h3 hp
  refine hQ v h' tk' t' n' us' n2' ?_ ?_ h3 hp hk'
  · obtain ⟨oL, es, ep, hL, r⟩ := F.ns
    exact ⟨⟨oL, es, ep, hk' _ _ (Ne.symm zB.2.1) (Ne.symm zq.2.1) hL, r⟩, fun b o e => hk' b o (fun q' => by have := zB.2.2; rw [← q', e] at this; cases this) (fun q' => by have := zq.2.2; rw [← q', e] at this; cases this) (F.keep b o e), F.above⟩
  · intro p hp
    rcases List.mem_cons.mp hp with rfl | hp
    · exact ⟨h1, zB.2⟩
    · rcases List.mem_cons.mp hp with rfl | hp
      · exact ⟨h2, zq.2⟩
      · have z := N p (.tail _ (.tail _ hp))
        exact ⟨hk' _ _ (hr p hp).1 (hr p hp).2 z.1, z.2⟩
end Mine
end

section
open PySem PySem.W PyProof.Rows PySem.Calls PySem.Spec PyProof.V
namespace Mine
set_option maxRecDepth 100000
section
variable {prog : Program} {w : World} {A : Around} {h₀ : Heap} {L : Addr} {m : Str → Option Value} {env : Env} {elt : Expr} {x : Str} {scope : Scope} {cl : List (Str × Addr)} {s : Shared} {S : List (Addr × Obj) → Prop} {P : Nat → Value → Prop} {Fin : List Value → List (Addr × Obj) → Prop}
/-- a comprehension whose turns change the things Led -/
def CompNext {σ : Type} (Led : σ → List (Addr × Obj)) (J : Nat → List Value → σ → Prop) (i : Nat) (ys : List Value) (y : Value) (news' : List (Addr × Obj)) : Prop := ∃ c' : σ, news' = Led c' ∧ J (i + 1) (ys ++ [y]) c'
theorem comp_st {σ : Type} {n : Nat} (Led : σ → List (Addr × Obj)) (J : Nat → List Value → σ → Prop) (c₀ : σ) (h0 : J 0 [] c₀)
    (step : ∀ i ys c v I oI C oC D m₂ h tk (E' : Value → Shared → Prop), i < n → J i ys c → P i v → LCg.NsObj oC m₂ → m₂ x = some v → Fr h₀ L h m → News h₀ L h ((I, oI) :: (C, oC) :: (D, LCg.lst ys) :: Led c) → LCg.Off3 I C D (Led c) → ((@Ne Nat I C) ∧ (@Ne Nat I D) ∧ (@Ne Nat C D)) →
      wpAny (model prog w) A (eval elt (compEnvC scope cl C env)) (LCg.CompEnd h₀ L m { s with heap := h, toks := tk } I oI C oC D (LCg.lst ys) S (CompNext Led J i ys)) E' { s with heap := h, toks := tk })
    (fin : ∀ ys c, J n ys c → Fin ys (Led c)) : LCg.CompRest prog w A h₀ L m env elt x scope cl s S P Fin n 0 [] (Led c₀) := by
  have key : ∀ (j i : Nat) (ys : List Value) (c : σ), i + j = n → J i ys c → LCg.CompRest prog w A h₀ L m env elt x scope cl s S P Fin j i ys (Led c) := by
    intro j
    induction j with
    | zero =>
      intro i ys c hi hy
      obtain rfl : i = n := by omega
      exact LCg.CompRest.zero (fin ys c hy)
    | succ j ih =>
      intro i ys c hi hy
      refine LCg.CompRest.succ ?_
      intro v I oI C oC D m₂ h tk E' hv hC hx F N off ne
      refine wpAny_mono (step i ys c v I oI C oC D m₂ h tk E' (by omega) hy hv hC hx F N off ne) (fun y s₂ hq => ?_) fun _ _ e => e
      obtain ⟨h', tk', nw, e, F', N', off', hS, c', rfl, hJ⟩ := hq
      exact ⟨h', tk', Led c', e, F', N', off', hS, ih (i + 1) _ c' (by omega) hJ⟩
  exact key n 0 [] c₀ (by omega) h0
theorem comp_end {σ : Type} {Led : σ → List (Addr × Obj)} {J : Nat → List Value → σ → Prop} {i : Nat} {I C D : Addr} {oI oC oD : Obj} {s₁ : Shared} {ys : List Value} {y : Value} {h' : Heap} {tk : Nat} {all : List (Addr × Obj)} (c' : σ)
    (F : Fr h₀ L h' m) (N : News h₀ L h' all) (sub : ∀ p ∈ (I, oI) :: (C, oC) :: (D, oD) :: Led c', p ∈ all) (off : LCg.Off3 I C D (Led c')) (hS : S (Led c')) (hJ : J (i + 1) (ys ++ [y]) c') :
    LCg.CompEnd h₀ L m s₁ I oI C oC D oD S (CompNext Led J i ys) y { s₁ with heap := h', toks := tk } :=
  LCg.CompEnd.intro F N (Led c') sub off hS ⟨c', rfl, hJ⟩
end
end Mine
end

section
open PySem PySem.W PyProof.Rows PySem.Calls PySem.Spec PyProof.V
namespace Mine
set_option maxRecDepth 100000
theorem RowsAt.inv {h : Heap} {rvs : List Value} {ns : List Int} {rows : List (List Int)} (x : RowsAt h rvs (ns :: rows)) : ∃ r vs rvs', rvs = .ref r :: rvs' ∧ h.IsList r vs.toArray ∧ IntsAre vs ns ∧ RowsAt h rvs' rows := by
  cases x with
  | cons h1 h2 h3 => exact ⟨_, _, _, rfl, h1, h2, h3⟩
theorem kms_tail1 (x : Value) (r : List Value) : kms_pick (x :: r).toArray.toList (some 1) none = r := by
  unfold kms_pick kms_lo kms_hi
  simp
def rowsD (rows : List (List Int)) : List PyData := rows.map fun ns => .list (ns.map .int)
theorem RowsAt.reads {h : Heap} {rvs : List Value} {rows : List (List Int)} (x : RowsAt h rvs rows) : ∃ as, ReadsAll h rvs (rowsD rows) as := by
  induction x with
  | nil => exact ⟨[], .nil⟩
  | cons hm hi _ ih =>
    obtain ⟨as, h2⟩ := ih
    exact ⟨_, .cons (reads_newData hm (ke_carried hi)) h2⟩
theorem rowsD_eqv : ∀ ns ms : List (List Int), PyData.eqvAll (rowsD ns) (rowsD ms) = decide (ns = ms)
  | [], [] => by simp [rowsD, PyData.eqvAll]
  | [], _ :: _ => by simp [rowsD, PyData.eqvAll]
  | _ :: _, [] => by simp [rowsD, PyData.eqvAll]
  | a :: r, b :: t => by
    have := rowsD_eqv r t
    unfold rowsD at this ⊢
    simp only [List.map_cons, PyData.eqvAll, PyData.eqv, this, ked_eqvAll]
    by_cases h : a = b <;> by_cases h' : r = t <;> simp [h, h']
theorem rowsD_lay : ∀ ns : List (List Int), PyData.canLayAll0 (rowsD ns) = true
  | [] => by simp [rowsD, PyData.canLayAll0]
  | a :: r => by
    have := rowsD_lay r
    unfold rowsD at this ⊢
    simp only [List.map_cons, PyData.canLayAll0, PyData.canLay0, this, ke_canLayAll0, Bool.and_self]
theorem rowsD_depth : ∀ ns : List (List Int), PyData.depthAll (rowsD ns) ≤ 1
  | [] => by simp [rowsD, PyData.depthAll]
  | a :: r => by
    have := rowsD_depth r
    unfold rowsD at this ⊢
    simp only [List.map_cons, PyData.depthAll, PyData.depth, ke_depthAll]
    omega
theorem rowsD_shaped (ns : List (List Int)) : SeqAt.shaped (.list (rowsD ns)) = true := by
  have := rowsD_depth ns
  unfold SeqAt.shaped
  simp only [PyData.canLay0, PyData.depth, rowsD_lay, Bool.true_and]
  exact decide_eq_true (by omega)
section
variable {prog : Program} {w : World} {A : Around} {E : Value → Shared → Prop} {s : Shared} {a b : Addr} {xs ys : List Value} {ns ms : List (List Int)} {Q : Value → Shared → Prop}
theorem rows_read (ha : s.heap.IsList a xs.toArray) (hi : RowsAt s.heap xs ns) : ∃ as, Reads s.heap (.ref a) (.list (rowsD ns)) as := by
  obtain ⟨o, ho, hc, n, hd⟩ := ha
  obtain ⟨as, r⟩ := hi.reads
  exact ⟨_, reads_list_at ho hc hd (by simpa using r)⟩
theorem rows_eq (ha : s.heap.IsList a xs.toArray) (hb : s.heap.IsList b ys.toArray) (hi : RowsAt s.heap xs ns) (hj : RowsAt s.heap ys ms) (hu : A.units + 64 < cLine) (h : Q (.bool (decide (ns = ms))) s) :
    wpAny (model prog w) A (compareOp .Eq (.ref a) (.ref b)) Q E s := by
  obtain ⟨as, ra⟩ := rows_read ha hi
  obtain ⟨bs, rb⟩ := rows_read hb hj
  refine eq_dataH ra rb (rowsD_shaped _) (rowsD_shaped _) hu ?_
  simp only [PyData.eqv, rowsD_eqv]
  exact h
theorem rows_ne (ha : s.heap.IsList a xs.toArray) (hb : s.heap.IsList b ys.toArray) (hi : RowsAt s.heap xs ns) (hj : RowsAt s.heap ys ms) (hu : A.units + 64 < cLine) (h : Q (.bool (!decide (ns = ms))) s) :
    wpAny (model prog w) A (compareOp .NotEq (.ref a) (.ref b)) Q E s := by
  obtain ⟨as, ra⟩ := rows_read ha hi
  obtain ⟨bs, rb⟩ := rows_read hb hj
  refine ne_dataH ra rb (rowsD_shaped _) (rowsD_shaped _) hu ?_
  simp only [PyData.eqv, rowsD_eqv]
  exact h
end
section
variable {prog : Program} {w : World} {A : Around} {E : Value → Shared → Prop} {s : Shared}
/-- one row of a list of rows -/
theorem item_row {value slice : Expr} {l : Addr} {rvs : List Value} {rows : List (List Int)} {k : Int} {u : Tok} {Q : Value → Shared → Prop} (hl : s.heap.IsList l rvs.toArray) (hr : RowsAt s.heap rvs rows) (h0 : 0 ≤ k) (h1 : k.toNat < rows.length)
    (h : ∀ r vs, s.heap.IsList r vs.toArray → rvs[k.toNat]? = some (.ref r) → IntsAre vs (rows.getD k.toNat []) → Q (.ref r) s)
    (hf : k < 2 ^ 63 := by omega)
    (hs : subscripted slice false (.ref l) (.int k u) = operate [.ref l, .int k u] (getItem (.ref l) (.int k u)) := by with_unfolding_all rfl) :
    wpAny (model prog w) A (subscriptTail value slice (.ref l) (.int k u)) Q E s := by
  obtain ⟨r, vs, e1, e2, e3⟩ := hr.get k.toNat h1
  have e : rows[k.toNat]'h1 = rows.getD k.toNat [] := by rw [List.getD_eq_getElem?_getD, List.getElem?_eq_getElem h1]; rfl
  rw [e] at e3
  exact item_listR hl h0 hf (by simpa using e1) (h r vs e2 e1 e3) hs
end
end Mine
end

section
open PySem PySem.W PyProof.Rows PySem.Calls PySem.Spec PyProof.V
namespace Mine
theorem the_addr {h₀ h : Heap} {L D : Addr} {o : Obj} {r : List (Addr × Obj)} (_ : News h₀ L h ((D, o) :: r)) : ∃ D' : Addr, D' = D := ⟨D, rfl⟩
theorem the_list {h₀ h : Heap} {L D : Addr} {vs : List Value} {n : Nat} {r : List (Addr × Obj)} (_ : News h₀ L h ((D, listOf vs.toArray n) :: r)) : ∃ (D' : Addr) (vs' : List Value), D' = D ∧ vs' = vs := ⟨D, vs, rfl, rfl⟩
theorem OffW.two {I J : Addr} {o o' : Obj} {p : Addr × Obj} (h1 : @LT.lt Nat _ p.1 J) (h2 : @LT.lt Nat _ p.1 I) : OffW [(I, o), (J, o')] [p] :=
  ⟨⟨.inl (Nat.ne_of_lt h2), .inl (Nat.ne_of_lt h1), trivial⟩, trivial⟩
end Mine
end

section
open PySem PySem.W PyProof.Rows PySem.Calls PySem.Spec PyProof.V PyProof.Rows.LCg PyProof.Rows.LCp
namespace Mine
local macro_rules | `(tactic| omega) => `(tactic| omega +splitNatSub)
set_option maxRecDepth 100000
section
variable {prog : Program} {w : World} {A : Around} {E : Value → Shared → Prop} {s : Shared} {h₀ : Heap} {L : Addr} {m : Str → Option Value} {env : Env}
theorem off1_of {D : Addr} : ∀ {l : List (Addr × Obj)}, (∀ p ∈ l, p.1 ≠ D) → LCg.Off1 D l
  | [], _ => trivial
  | p :: r, h => ⟨h p (.head _), off1_of fun q hq => h q (.tail _ hq)⟩
def EStep (prog : Program) (w : World) (A : Around) (h₀ : Heap) (L : Addr) (m : Str → Option Value) (env : Env) (elt : Expr) (x x₂ : Str) (scope : Scope) (cl : List (Str × Addr)) (s₁ : Shared) (vs : List Value) (news : List (Addr × Obj)) (J : Nat → List Value → Prop) : Prop :=
  ∀ i ys v t C oC D m₂ h tk (E' : Value → Shared → Prop), J i ys → vs[i]? = some v → NsObj oC m₂ → m₂ x = some (.int (i : Int) t) → m₂ x₂ = some v → Fr h₀ L h m → News h₀ L h ((C, oC) :: (D, LCg.lst ys) :: news) →
    wpAny (model prog w) A (eval elt (compEnvC scope cl C env)) (fun y s' => (∃ tk', s' = { s₁ with heap := h, toks := tk' }) ∧ J (i + 1) (ys ++ [y])) E' { s₁ with heap := h, toks := tk }
def SrcE (prog : Program) (w : World) (A : Around) (h₀ : Heap) (L : Addr) (m : Str → Option Value) (env : Env) (elt : Expr) (x x₂ : Str) (scope : Scope) (cl : List (Str × Addr)) (Fin : Shared → List Value → List (Addr × Obj) → Prop) (xv : Value) (s₁ : Shared) : Prop :=
  ∃ (e it l : Addr) (vs : List Value) (news : List (Addr × Obj)) (J : Nat → List Value → Prop), xv = .ref e ∧ A.handled = none ∧ Fr h₀ L s₁.heap m ∧ News h₀ L s₁.heap news ∧ IsEnum s₁.heap e it 0 .none ∧ s₁.heap.IsListIter it l 0 ∧ s₁.heap.IsList l vs.toArray ∧
    (@Ne Nat e it ∧ @Ne Nat l e ∧ @Ne Nat l it ∧ @Ne Nat L e ∧ @Ne Nat L it) ∧ h₀.get? e = none ∧ h₀.get? it = none ∧ (∀ p ∈ news, @Ne Nat p.1 e ∧ @Ne Nat p.1 it) ∧ vs.length ≤ sizeLine ∧ J 0 [] ∧
    (∀ s₂ : Shared, (∃ h, s₂ = { s₁ with heap := h }) → EStep prog w A h₀ L m env elt x x₂ scope cl s₂ vs news J ∧ ∀ ys, J vs.length ys → Fin s₂ ys news)
theorem enum_comp {elt : Expr} {x x₂ : Str} {scope : Scope} {cl : List (Str × Addr)} {Fin : Shared → List Value → List (Addr × Obj) → Prop} {l : Addr} {vs : List Value} {news : List (Addr × Obj)} (J : Nat → List Value → Prop)
    (hh : A.handled = none) (F : Fr h₀ L s.heap m) (N : News h₀ L s.heap news) (hl : s.heap.IsList l vs.toArray) (hsz : vs.length ≤ sizeLine) (h0 : J 0 [])
    (rest : ∀ g tk, EStep prog w A h₀ L m env elt x x₂ scope cl { s with heap := g, toks := tk } vs news J ∧ ∀ ys, J vs.length ys → Fin { s with heap := g, toks := tk } ys news) :
    wpAny (model prog w) A (call (.type "enumerate") [.ref l]) (SrcE prog w A h₀ L m env elt x x₂ scope cl Fin) E s := by
  obtain ⟨lo, hlo, _⟩ := id hl
  have hlt : l < s.heap.objs.size := Heap.lt_size hlo
  have hLs : L < s.heap.objs.size := F.ns.lt
  have fresh₀ : ∀ a, s.heap.objs.size ≤ a → h₀.get? a = none := fun a ha => by
    cases e : h₀.get? a with
    | none => rfl
    | some o' => exact absurd (Heap.lt_size (F.keep a o' e)) (Nat.not_lt.mpr ha)
  refine call_enumerate_list hl fun h' hE hI hsz' hk => ?_
  refine ⟨_, _, l, vs, news, J, rfl, hh, F.keeps hk, N.grown hk, hE, hI, hl.at fun o e => hk l o e, ⟨Nat.succ_ne_self _, ktu_ne 1 hlt, Nat.ne_of_lt hlt, ktu_ne 1 hLs, Nat.ne_of_lt hLs⟩, fresh₀ _ (Nat.le_succ _), fresh₀ _ (Nat.le_refl _), fun p hp => ⟨ktu_ne 1 (Heap.lt_size (N p hp).1), Nat.ne_of_lt (Heap.lt_size (N p hp).1)⟩, hsz, h0, ?_⟩
  rintro s₂ ⟨g, rfl⟩
  exact rest g _
theorem block_E {elt iter : Expr} {x x₂ : Str} {px px₂ tp : Pos} {tk} {scope : Scope} {cl : List (Str × Addr)} {pos : Pos} {s₂ : Shared} {e it l : Addr} {vs : List Value} {news : List (Addr × Obj)} {J : Nat → List Value → Prop}
    {Fin : List Value → List (Addr × Obj) → Prop} {RR : Value → Addr → Result → Shared → Prop}
    (hh : A.handled = none) (hsz : vs.length ≤ sizeLine)
    (hcell : ∀ y ∈ scope.names, y.2 ≠ .cell) (hkind : scope.kind = .function) (hx : scope.names.lookup x = some .local) (hx₂ : scope.names.lookup x₂ = some .local) (hxx : x ≠ x₂)
    (hE : IsEnum s₂.heap e it 0 .none) (hI : s₂.heap.IsListIter it l 0) (hl : s₂.heap.IsList l vs.toArray) (hei : @Ne Nat e it) (hle : @Ne Nat l e) (hli : @Ne Nat l it) (hLe : @Ne Nat L e) (hLi : @Ne Nat L it) (he₀ : h₀.get? e = none) (hi₀ : h₀.get? it = none) (off : ∀ p ∈ news, @Ne Nat p.1 e ∧ @Ne Nat p.1 it)
    (F : Fr h₀ L s₂.heap m) (N : News h₀ L s₂.heap news) (h0 : J 0 []) (R : EStep prog w A h₀ L m env elt x x₂ scope cl s₂ vs news J) (hfin : ∀ ys, J vs.length ys → Fin ys news)
    (hRR : ∀ D C h tk m' ys news', Fr h₀ L h m → News h₀ L h ((D, LCg.lst ys) :: news') → Off1 D news' → h.Ns C m' → h₀.get? C = none → h₀.get? D = none → C ≠ L → D ≠ L → C ≠ D → (∀ p ∈ news', p.1 ≠ C) → Fin ys news' → RR (.ref D) C (.ok .next) { s₂ with heap := h, toks := tk }) :
    wpAny (model prog w) A (newList []) (fun acc s₃ => wpAny (model prog w) A (newFunctionEnv scope env.globals cl [] env.qual none .none (some env)) (fun cenv s₄ =>
      codeAny (model prog w) A (.compStart (.ListComp elt [⟨.Tuple [.Name x px, .Name x₂ px₂] tk tp, iter, [], 0⟩] scope pos) 0 (.ref e) acc { cenv with scope := relabel scope env }) (RR acc cenv.locals) s₄) E s₃) E s₂ := by
  have W := KTurns.ofWalksU (elts := [.Name x px, .Name x₂ px₂]) (k := tk) (pos := tp) (WalksT.enumerate (prog := prog) (w := w) (A := A) hh e it l hei hle hli vs.toArray).toU
  refine wpAny_newObj_type (wpAny_newFunctionEnv hcell (by intro y hy; simp at hy) (fun h₁ hns₁ hsb₁ => ?_) hkind)
  dsimp only at hns₁ hsb₁ ⊢
  generalize hH2 : s₂.heap.push { cls := .type "list", dict := none, data := .seq ([] : List Value).toArray } = H2 at hns₁ hsb₁ ⊢
  have hC : H2.objs.size = s₂.heap.objs.size + 1 := by rw [← hH2, Heap.size_push]
  have hDC : s₂.heap.objs.size ≠ H2.objs.size := by rw [hC]; exact Nat.ne_of_lt (Nat.lt_succ_self _)
  have below : ∀ b, b < s₂.heap.objs.size → b ≠ H2.objs.size ∧ b ≠ s₂.heap.objs.size := fun b hb => ⟨by rw [hC]; exact Nat.ne_of_lt (Nat.lt_succ_of_lt hb), Nat.ne_of_lt hb⟩
  have helt : e < s₂.heap.objs.size := Heap.lt_size hE
  have hilt : it < s₂.heap.objs.size := by obtain ⟨_, q, _⟩ := hI; exact Heap.lt_size q
  have hllt : l < s₂.heap.objs.size := by obtain ⟨_, q, _⟩ := hl; exact Heap.lt_size q
  have hfp : ∀ b ∈ [e, it, l], b < s₂.heap.objs.size := fun b hb => by
    rcases List.mem_cons.mp hb with rfl | hb
    · exact helt
    · rcases List.mem_cons.mp hb with rfl | hb
      · exact hilt
      · rw [List.mem_singleton.mp hb]; exact hllt
  have hDf : s₂.heap.objs.size ∉ [e, it, l] := fun hm => Nat.lt_irrefl _ (hfp _ hm)
  have hCf : H2.objs.size ∉ [e, it, l] := fun hm => by have := hfp _ hm; rw [hC] at this; exact Nat.lt_irrefl _ (Nat.lt_of_succ_lt this)
  have wsub : ∀ b, b ∈ [e, it] → b ∈ [e, it, l] := fun b hb => W.sub b hb
  have old : ∀ b o, s₂.heap.get? b = some o → h₁.get? b = some o := fun b o e => hsb₁.extBut b o (below b (Heap.lt_size e)).1 (Heap.get?_push_of_some _ (hH2 ▸ Heap.get?_push_of_some _ e))
  have hacc : h₁.get? s₂.heap.objs.size = some (LCg.lst []) := hsb₁.extBut _ _ hDC (Heap.get?_push_of_some _ (hH2 ▸ Heap.get?_push_size _ rfl))
  have hst₁ : (∃ old, IsEnum h₁ e it ((0 : Nat) : Int) old) ∧ h₁.IsListIter it l 0 ∧ h₁.IsList l vs.toArray := ⟨⟨.none, old _ _ hE⟩, hI.at fun o q => old _ _ q, hl.at fun o q => old _ _ q⟩
  have fresh : ∀ a, s₂.heap.objs.size ≤ a → s₂.heap.get? a = none := fun a ha => by
    cases e : s₂.heap.get? a with
    | none => rfl
    | some o' => exact absurd (Heap.lt_size e) (Nat.not_lt.mpr ha)
  have fresh₀ : ∀ a, s₂.heap.objs.size ≤ a → h₀.get? a = none := fun a ha => by
    cases e : h₀.get? a with
    | none => rfl
    | some o' => have := F.keep a o' e; rw [fresh a ha] at this; cases this
  have hD₀ : h₀.get? s₂.heap.objs.size = none := fresh₀ _ (Nat.le_refl _)
  have hC₀ : h₀.get? H2.objs.size = none := fresh₀ _ (by rw [hC]; exact Nat.le_succ _)
  have hLlt : L < s₂.heap.objs.size := F.ns.lt
  have hDL : s₂.heap.objs.size ≠ L := Ne.symm (below L hLlt).2
  have hCL : H2.objs.size ≠ L := Ne.symm (below L hLlt).1
  have offC : ∀ p ∈ news, p.1 ≠ H2.objs.size ∧ p.1 ≠ s₂.heap.objs.size := fun p hp => below _ (Heap.lt_size (N p hp).1)
  have h₀w : ∀ b o, h₀.get? b = some o → b ∉ [e, it] := fun b o q hb => by
    rcases List.mem_cons.mp hb with rfl | hb
    · rw [he₀] at q; cases q
    · rw [List.mem_singleton.mp hb, hi₀] at q; cases q
  have Lw : L ∉ [e, it] := fun hb => by
    rcases List.mem_cons.mp hb with q | hb
    · exact hLe q
    · exact hLi (List.mem_singleton.mp hb)
  have Cw : H2.objs.size ∉ [e, it] := fun hb => hCf (wsub _ hb)
  have Dw : s₂.heap.objs.size ∉ [e, it] := fun hb => hDf (wsub _ hb)
  have nw : ∀ p ∈ news, p.1 ∉ [e, it] := fun p hp hb => by
    rcases List.mem_cons.mp hb with q | hb
    · exact (off p hp).1 q
    · exact (off p hp).2 (List.mem_singleton.mp hb)
  have step : ∀ h h' : Heap, (∀ b o, b ∉ [e, it] → h.get? b = some o → h'.get? b = some o) → ∀ {ys : List Value}, Fr h₀ L h m → News h₀ L h ((s₂.heap.objs.size, LCg.lst ys) :: news) → Fr h₀ L h' m ∧ News h₀ L h' ((s₂.heap.objs.size, LCg.lst ys) :: news) := fun h h' hk ys F' N' =>
    ⟨⟨F'.ns.at' fun o q => hk _ o Lw q, fun b o q => hk b o (h₀w b o q) (F'.keep b o q), F'.above⟩, fun p hp => ⟨hk _ _ (by rcases List.mem_cons.mp hp with rfl | hp; exact Dw; exact nw p hp) (N' p hp).1, (N' p hp).2⟩⟩
  have loop : ∀ s₃ : Shared, s₃ = { s₂ with heap := h₁, toks := s₂.toks + ([] : List (Str × Value)).length } →
      codeAny (model prog w) A (.compLoop (.ListComp elt [⟨.Tuple [.Name x px, .Name x₂ px₂] tk tp, iter, [], 0⟩] scope pos) 0 (.ref e) (.ref s₂.heap.objs.size) (compEnvC scope cl H2.objs.size env))
        (RR (.ref s₂.heap.objs.size) H2.objs.size) s₃ := by
    rintro s₃ rfl
    refine codeAny_compLoop_pair
      (fun k s' => ∃ h' tk i ys m', s' = { s₂ with heap := h', toks := tk } ∧ i ≤ vs.toArray.size ∧ k = vs.toArray.size + 1 - i ∧ ys.length = i ∧ ((∃ old, IsEnum h' e it ((i : Nat) : Int) old) ∧ h'.IsListIter it l i ∧ h'.IsList l vs.toArray) ∧ Fr h₀ L h' m ∧ h'.Ns H2.objs.size m' ∧ News h₀ L h' ((s₂.heap.objs.size, LCg.lst ys) :: news) ∧ J i ys) ?_ (vs.toArray.size + 1)
      ⟨h₁, _, 0, [], _, rfl, Nat.zero_le _, rfl, rfl, hst₁, F.keeps old, hns₁, fun p hp => ?_, h0⟩
    · rintro k s' ⟨h', tk, i, ys, m', rfl, hi, rfl, hyl, hst', F', hn', N', hJ⟩
      by_cases hlt : i < vs.toArray.size
      · refine W.item i _ _ _ hlt hst' fun v h₂ tk₂ hMd hk₂ => ?_
        obtain ⟨F₂, N₂⟩ := step _ _ hk₂ F' N'
        refine W.go i v _ _ _ hMd fun h₃ hP hst₃ hk₃ => ?_
        obtain ⟨F₃, N₃⟩ := step _ _ hk₃ F₂ N₂
        obtain ⟨T, vals, rfl, ⟨t, x', hx', rfl⟩, hT⟩ := hP
        have hn₃ : h₃.Ns H2.objs.size m' := (hn'.at' fun o q => hk₂ _ o Cw q).at' fun o q => hk₃ _ o Cw q
        have ht : IsTup h₃ T #[.int (i : Int) t, x'] := hT
        refine assign_Tuple_tuple hh ht rfl rfl fun h₅ he => ?_
        have he' : ∀ b o, h₃.get? b = some o → h₅.get? b = some o := fun b o e => he b o (Nat.ne_of_lt (Heap.lt_size e)) e
        refine assignInOrder_cons (wpAny_assign_Name (wpAny_storeName_local (lookup_relabel_local hx) (hn₃.at' fun o e => he' _ o e) (fun h₆ hn₆ hs₆ => ?_) (by simp [compEnvC, relabel, hkind])))
        refine assignInOrder_cons (wpAny_assign_Name (wpAny_storeName_local (lookup_relabel_local hx₂) hn₆ (fun h₇ hn₇ hs₇ => ?_) (by simp [compEnvC, relabel, hkind])))
        refine assignInOrder_nil ?_
        have old7 : ∀ b o, b ≠ H2.objs.size → h₃.get? b = some o → h₇.get? b = some o := fun b o hb e => hs₇.extBut b o hb (hs₆.extBut b o hb (he' b o e))
        have hst₇ := W.frame _ _ h₇ hst₃ fun b hb o e => old7 b o (fun q => hCf (by rw [← q]; exact hb)) e
        obtain ⟨oC, heC, hoC⟩ := ns_obj hn₇
        have F₇ : Fr h₀ L h₇ m := ((F₃.keeps he').change hs₆ hCL hC₀).change hs₇ hCL hC₀
        have N₇ : News h₀ L h₇ ((H2.objs.size, oC) :: (s₂.heap.objs.size, LCg.lst ys) :: news) := fun p hp => by
          rcases List.mem_cons.mp hp with rfl | hp
          · exact ⟨heC, hCL, hC₀⟩
          · refine ⟨old7 _ _ ?_ (N₃ p hp).1, (N₃ p hp).2⟩
            rcases List.mem_cons.mp hp with rfl | hp
            · exact hDC
            · exact (offC p hp).1
        refine wpAny_mono (R i ys x' t H2.objs.size oC s₂.heap.objs.size _ h₇ _ _ hJ (by simpa using hx') hoC (by simp [hxx]) (by simp) F₇ N₇) (fun y s₄ h₄ => ?_) fun _ _ e => e
        obtain ⟨⟨tk₄, rfl⟩, hJ₄⟩ := h₄
        have zD := (N₇ (s₂.heap.objs.size, LCg.lst ys) (List.mem_cons_of_mem _ List.mem_cons_self)).1
        refine append_at (hsz := by show ys.toArray.size ≤ sizeLine; rw [List.size_toArray, hyl]; simp at hi; omega) zD fun h₅ hs₅ hD₅ => ?_
        refine ⟨vs.toArray.size + 1 - (i + 1), by omega, h₅, tk₄, i + 1, ys ++ [y], _, rfl, hlt, rfl, by rw [List.length_append, List.length_singleton, hyl], W.frame _ _ _ hst₇ fun b hb o e => hs₅.extBut b o (fun q => hDf (q ▸ hb)) e, F₇.change hs₅ hDL hD₀,
          (hoC.ns heC).sameBut hs₅ (Ne.symm hDC), fun p hp => ?_, hJ₄⟩
        rcases List.mem_cons.mp hp with rfl | hp
        · exact ⟨hD₅.trans (congrArg some (lst_snoc ys y)), hDL, hD₀⟩
        · have z := N₇ p (List.mem_cons_of_mem _ (List.mem_cons_of_mem _ hp))
          exact ⟨hs₅.extBut _ _ (offC p hp).2 z.1, z.2⟩
      · obtain rfl : i = vs.toArray.size := Nat.le_antisymm hi (Nat.not_lt.mp hlt)
        refine W.done _ _ _ hst' fun h₂ tk₂ hk₂ => ?_
        obtain ⟨F₂, N₂⟩ := step _ _ hk₂ F' N'
        exact hRR _ _ h₂ tk₂ _ ys news F₂ N₂ (off1_of fun p hp => (offC p hp).2) (hn'.at' fun o q => hk₂ _ o Cw q) hC₀ hD₀ hCL hDL (Ne.symm hDC) (fun p hp => (offC p hp).1) (hfin ys (by simpa using hJ))
    · rcases List.mem_cons.mp hp with rfl | hp
      · exact ⟨hacc, hDL, hD₀⟩
      · exact ⟨old _ _ (N p hp).1, (N p hp).2⟩
  exact codeAny_compStart_list (loop _ rfl) (wpAny_pyIter_enum hst₁.1.choose_spec (loop _ rfl))
theorem Assign_ListComp_E {elt iter : Expr} {x x₂ y : Str} {px px₂ tp py : Pos} {tk} {scope : Scope} {cl : List (Str × Addr)} {pos spos : Pos} {Q : Flow → Shared → Prop} (_F₀ : Fr h₀ L s.heap m) (hLe : env.locals = L)
    (hsw : swapsWith (.ListComp elt [⟨.Tuple [.Name x px, .Name x₂ px₂] tk tp, iter, [], 0⟩] scope pos) (some (.Name y py)) spos.line env = pure true)
    (hclos : closureFor scope env = pure cl) (hcell : ∀ z ∈ scope.names, z.2 ≠ .cell) (hkind : scope.kind = .function)
    (hnames : ∀ z ∈ scope.names, z.2 = .local → scope.names.lookup z.1 = some .local) (hx : scope.names.lookup x = some .local) (hx₂ : scope.names.lookup x₂ = some .local) (hxx : x ≠ x₂)
    (hy : env.kindOf y = some .local) (hp : (env.scope.kind == .class || (env.scope.kind == .module && env.locals != env.globals)) = false)
    (h : wpAny (model prog w) A (eval iter env) (SrcE prog w A h₀ L m env elt x x₂ scope cl (fun s₂ => FinA h₀ L m s₂ y Q)) E s)
    (hs : ∀ x, foldedSetIterable iter env x = pure x := by intro _; rfl) :
    wpAny (model prog w) A (exec (.Assign [.Name y py] (.ListComp elt [⟨.Tuple [.Name x px, .Name x₂ px₂] tk tp, iter, [], 0⟩] scope pos) spos) env) Q E s := by
  subst hLe
  rw [exec_Assign_Name_used _ _ _ _ hsw]
  refine wpAny_bind (wpAny_standAt (wpAny_bind ?_))
  show wpAny _ A (do let _ ← comprehension (.ListComp elt [⟨.Tuple [.Name x px, .Name x₂ px₂] tk tp, iter, [], 0⟩] scope pos) scope env _ (newList []) false (eval iter env) (some (assign (.Name y py) env))) _ _ s
  refine wpAny_bind (wpAny_mono (wpAny_comprehension_free (use := some (assign (.Name y py) env)) (Q := fun _ s' => Q .next s') rfl hs hclos hkind hnames
    (wpAny_mono h (fun xv s₁ h₁ => ?_) fun _ _ e => e)) (fun _ s' hq => wpAny_pure (wpAny_pure hq)) fun _ _ e => e)
  obtain ⟨e, it, l, vs, news, J, rfl, hh, F, N, hE, hI, hl, ⟨n1, n2, n3, n4, n5⟩, he₀, hi₀, off, hsz, h0, R⟩ := h₁
  refine wpAny_pyIter_enum hE ?_
  obtain ⟨R1, R2⟩ := R s₁ ⟨_, rfl⟩
  refine block_E hh hsz hcell hkind hx hx₂ hxx hE hI hl n1 n2 n3 n4 n5 he₀ hi₀ off F N h0 R1 R2 ?_
  intro D C h' tk m' ys news' F' N' o1 hn hC₀ hD₀ hCL hDL hCD offC fin
  show wpAny _ A (assign (.Name y py) env (.ref D)) _ _ _
  refine wpAny_assign_Name (wpAny_storeName_local hy F'.ns (fun h₂ hn₂ hs₂ => ?_) hp)
  have hL₀ : h₀.get? env.locals = none := Heap.get?_none_of_le F'.above
  have F₂ : Fr h₀ env.locals h₂ (fun z => if z = y then some (.ref D) else m z) := ⟨hn₂, fun b o e => hs₂.extBut b o (fun q => by rw [q, hL₀] at e; cases e) (F'.keep b o e), F'.above⟩
  refine ⟨m', hn.sameBut hs₂ hCL, fun h'' hs'' => fin D h'' _ (F₂.change hs'' hCL hC₀) (fun p hp => ?_) o1⟩
  have z : h₂.get? p.1 = some p.2 := hs₂.extBut _ _ (N' p hp).2.1 (N' p hp).1
  refine ⟨hs''.extBut _ _ ?_ z, (N' p hp).2⟩
  rcases List.mem_cons.mp hp with rfl | hp
  · exact Ne.symm hCD
  · exact offC p hp
end
end Mine
end

section
open PySem PySem.W PyProof.Rows PySem.Calls PySem.Spec PyProof.V
namespace Mine
set_option maxRecDepth 100000
section
variable {prog : Program} {w : World} {A : Around} {E : Value → Shared → Prop} {s : Shared} {env : Env} {h₀ : Heap} {target : Expr} {body : List Stmt} {Q : Flow → Shared → Prop}
theorem range_for {n : Int} {t : Tok} {k : Nat} {m₀ : Str → Option Value} {news : List (Addr × Obj)} (hh : A.handled = none) (F : Fr h₀ env.locals s.heap m₀) (N : News h₀ env.locals s.heap news) (hk : n = (k : Int)) (h2 : n < 1000)
    (rest : ∀ h tk (I : Addr), (∀ p ∈ news, @LT.lt Nat _ p.1 I) → ItemsRest prog w A E h₀ env target body Q { s with heap := h, toks := tk } [(I, "range_iterator")] [] (rangeItems 0 k) m₀ news) :
    wpAny (model prog w) A (call (.type "range") [.int n t]) (fun xv s₁ => wpAny (model prog w) A (pyIter xv) (fun it s₂ => TurnsAt prog w A h₀ env target body Q E it s₂) E s₁) E s := by
  refine call_range_1 ?_
  refine iter_range hh (F.push _) (fun p hp => ⟨Heap.get?_push_of_some _ (N p hp).1, (N p hp).2⟩) (IsRange.new ..) (small_one (by omega) (by omega) (by omega) (by omega)) ?_ (fun I hI => rest _ _ I hI)
  rw [rangeSize_one]
  split <;> omega
theorem range_two {a n : Int} {t u : Tok} {k : Nat} {m₀ : Str → Option Value} {news : List (Addr × Obj)} (hh : A.handled = none) (F : Fr h₀ env.locals s.heap m₀) (N : News h₀ env.locals s.heap news) (ha : 0 ≤ a) (hk : n - a = (k : Int)) (h2 : n < 1000)
    (rest : ∀ h tk (I : Addr), (∀ p ∈ news, @LT.lt Nat _ p.1 I) → ItemsRest prog w A E h₀ env target body Q { s with heap := h, toks := tk } [(I, "range_iterator")] [] (rangeItems a k) m₀ news) :
    wpAny (model prog w) A (call (.type "range") [.int a t, .int n u]) (fun xv s₁ => wpAny (model prog w) A (pyIter xv) (fun it s₂ => TurnsAt prog w A h₀ env target body Q E it s₂) E s₁) E s := by
  refine call_range_2 ?_
  refine iter_range hh (F.push _) (fun p hp => ⟨Heap.get?_push_of_some _ (N p hp).1, (N p hp).2⟩) (IsRange.new ..) (small_one (by omega) (by omega) (by omega) (by omega)) ?_ (fun I hI => rest _ _ I hI)
  rw [rangeSize_one]
  split <;> omega
theorem rangeItems_get (x : Int) (k i : Nat) (hi : i < k) : (rangeItems x k).drop i = Itm.tok (fun t => .int (x + (i : Int)) t) :: (rangeItems x k).drop (i + 1) := by
  unfold rangeItems
  rw [List.drop_eq_getElem_cons (by simpa using hi)]
  simp
theorem range_turn {x : Int} {k i : Nat} {a : Itm} {r : List Itm} (e : a :: r = (rangeItems x k).drop i) : i < k ∧ a = Itm.tok (fun t => .int (x + (i : Int)) t) ∧ r = (rangeItems x k).drop (i + 1) := by
  have hl := congrArg List.length e
  simp [rangeItems] at hl
  have hi : i < k := by omega
  rw [rangeItems_get x k i hi] at e
  cases e
  exact ⟨hi, rfl, rfl⟩
theorem range_done {x : Int} {k i : Nat} (e : [] = (rangeItems x k).drop i) (h : i ≤ k) : i = k := by
  have hl := congrArg List.length e
  simp [rangeItems] at hl
  omega
end
end Mine
end

section
open PySem PySem.W PyProof.Rows PySem.Calls PySem.Spec PyProof.V
namespace Mine
set_option maxRecDepth 100000
section
variable {prog : Program} {w : World} {A : Around} {h₀ : Heap} {L : Addr} {m : Str → Option Value} {env : Env} {ct elt : Expr} {x : Str} {scope : Scope} {cl : List (Str × Addr)} {s : Shared} {S : List (Addr × Obj) → Prop} {P : Nat → Value → Prop} {Fin : List Value → List (Addr × Obj) → Prop} {news : List (Addr × Obj)} {n : Nat}
/-- a comprehension whose test lets nothing through -/
theorem compT_none (turn : ∀ i v I oI C oC D m₂ h tk (E' : Value → Shared → Prop), i < n → P i v → LCg.NsObj oC m₂ → m₂ x = some v → Fr h₀ L h m → News h₀ L h ((I, oI) :: (C, oC) :: (D, LCg.lst []) :: news) → LCg.Off3 I C D news → ((@Ne Nat I C) ∧ (@Ne Nat I D) ∧ (@Ne Nat C D)) →
      wpAny (model prog w) A (isTrue ct (compEnvC scope cl C env) (eval ct (compEnvC scope cl C env))) (fun b s' => if b = true then False else LCg.CompEnd h₀ L m { s with heap := h, toks := tk } I oI C oC D (LCg.lst []) S (fun _ news' => news' = news) Value.none s') E' { s with heap := h, toks := tk })
    (fin : Fin [] news) : LCt.CompRestT prog w A h₀ L m env ct elt x scope cl s S P Fin n 0 [] news := by
  have key : ∀ (j i : Nat), i + j = n → LCt.CompRestT prog w A h₀ L m env ct elt x scope cl s S P Fin j i [] news := by
    intro j
    induction j with
    | zero =>
      intro i hi
      exact LCt.CompRestT.zero fin
    | succ j ih =>
      intro i hi
      refine LCt.CompRestT.succ ?_
      intro v I oI C oC D m₂ h tk E' hv hC hx F N off ne
      refine wpAny_mono (turn i v I oI C oC D m₂ h tk E' (by omega) hv hC hx F N off ne) (fun b s₂ hq => ?_) fun _ _ e => e
      cases b with
      | true => exact absurd hq (by simp)
      | false =>
        simp only [Bool.false_eq_true, if_false] at hq ⊢
        obtain ⟨h', tk', nw, e, F', N', off', hS, e2⟩ := hq
        exact ⟨h', tk', nw, e, F', N', off', hS, by rw [e2]; exact ih (i + 1) (by omega)⟩
  exact key n 0 (by omega)
theorem compT_no {I C D : Addr} {oI oC oD : Obj} {s₁ : Shared} {h' : Heap} {tk : Nat} {all : List (Addr × Obj)}
    (F : Fr h₀ L h' m) (N : News h₀ L h' all) (sub : ∀ p ∈ (I, oI) :: (C, oC) :: (D, oD) :: news, p ∈ all) (off : LCg.Off3 I C D news) (hS : S news) :
    LCg.CompEnd h₀ L m s₁ I oI C oC D oD S (fun _ news' => news' = news) Value.none { s₁ with heap := h', toks := tk } :=
  LCg.CompEnd.intro F N news sub off hS rfl
theorem CompSrcT_two {E : Value → Shared → Prop} {a b : Int} {t u : Tok} {k : Nat} {Fn : Shared → List Value → List (Addr × Obj) → Prop} (hh : A.handled = none) (F : Fr h₀ L s.heap m) (N : News h₀ L s.heap news) (ha : 0 ≤ a) (ha2 : a < 1000) (h3 : 0 ≤ b) (hk : (k : Int) = if a < b then b - a else 0) (h2 : b < 1000)
    (h : ∀ g tk, LCt.CompRestT prog w A h₀ L m env ct elt x scope cl { s with heap := g, toks := tk } (fun _ => True) (fun i v => ∃ t, v = .int (a + (i : Int)) t) (Fn { s with heap := g, toks := tk }) k 0 [] news) :
    wpAny (model prog w) A (call (.type "range") [.int a t, .int b u]) (LCt.CompSrcT prog w A h₀ L m env ct elt x scope cl Fn) E s := by
  refine call_range_2 ?_
  exact LCt.CompSrcT.range hh (F.push _) (fun p hp => ⟨Heap.get?_push_of_some _ (N p hp).1, (N p hp).2⟩) (IsRange.new ..) (small_one (by split at hk <;> omega) (by omega) (by omega) (by omega)) (by rw [rangeSize_one]; exact hk.symm) (by rw [sizeLine_eq]; split at hk <;> omega) (fun g => h g _)
end
end Mine
end

section
open PySem PySem.W PyProof.Rows PySem.Calls PySem.Spec PyProof.V
namespace Mine
set_option maxRecDepth 100000
/-! what a stretch of the walk does not look at is hidden behind names: each binder of a proof shifts every open term of its goal -/
theorem enterH {w : World} {f : Addr} {args : List Value} {dep : Nat} {pre : Heap → Prop} {post : Heap → Value → Heap → Prop}
    {name qual : Str} {params : Arguments} {body : List Stmt} {scope : Scope} {dV kV doc pm cdv ct oc : Value} {an od : Option Addr} {osl : Array (Option Value)} (binds : List (Str × Value))
    (ho : (hd.heap_39 w.params).lookup f = some ⟨oc, od, .func (fnOf name qual params body scope dV kV doc pm an cdv ct), osl⟩) (hcd : codeIn (hd.heap_39 w.params) cdv qual = true)
    (hbind : ∀ s, BindsTo s (fnOf name qual params body scope dV kV doc pm an cdv ct) ⟨args, []⟩ binds) (hloc : ∀ y ∈ binds, scope.names.lookup y.1 = some .local)
    (hco : scope.isCoroutine = false) (hgen : scope.isGenerator = false) (hk : scope.kind = .function) (hcell : ∀ x ∈ scope.names, x.2 ≠ .cell)
    (h : ∀ (mean : ExcName → Option Value) (mg mb : Str → Option Value) (dp un : Nat) (gd : Option (List Code)) (h₀ : Heap) (s : Shared) (L : Addr) (Qb : Flow → Shared → Prop) (base : Heap) (outer : List Env),
      (∀ {v : Value} {m' : Str → Option Value} {h' : Heap} {tk' : Nat}, Fr h₀ L h' m' → post h₀ v h' → Qb (.ret v) { s with heap := h', toks := tk' }) →
      Fr h₀ L s.heap (fun y => binds.reverse.lookup y) → News h₀ L s.heap [] → (hd.heap_39 w.params).In h₀ → Top hd.view_39 (looseW hd.view_39 []) mean mg mb h₀ →
      Below (Ar dp un gd outer) base outer h₀ → dp + (dep + 1) < recursionLimit → un + 8 * (dep + 1) < cLine → pre h₀ →
      wpAny (model RR.row.prog w) (Ar (dp + 1) (un + 3) gd (envOf qual scope L f cdv :: outer)) (execs body (envOf qual scope L f cdv)) Qb (fun _ _ => False) s) :
    CallOk w f args (dep + 1) pre post :=
  enter binds ho hcd hbind hloc hco hgen hk hcell fun mean mg mb dp un gd s h₁ L base outer F N X T B hd hu hp =>
    h mean mg mb dp un gd s.heap { s with heap := h₁, toks := s.toks + binds.length } L _ base outer (fun {_ _ h' tk'} F hp => ⟨h', tk', rfl, F.keep, hp⟩) F N X T B hd hu hp
theorem enterCH {w : World} {f : Addr} {args : List Value} {dep : Nat} {pre : Heap → Prop} {post : Heap → Value → Heap → Prop}
    {name qual : Str} {params : Arguments} {body : List Stmt} {scope : Scope} {dV kV doc pm cdv ct oc : Value} {an od : Option Addr} {osl : Array (Option Value)} (binds : List (Str × Value))
    (ho : (hd.heap_39 w.params).lookup f = some ⟨oc, od, .func (fnOf name qual params body scope dV kV doc pm an cdv ct), osl⟩) (hcd : codeIn (hd.heap_39 w.params) cdv qual = true)
    (hbind : ∀ s, BindsTo s (fnOf name qual params body scope dV kV doc pm an cdv ct) ⟨args, []⟩ binds)
    (hkind : ∀ n, ∀ x ∈ binds, scope.names.lookup x.1 = some .local ∨ (scope.names.lookup x.1 = some .cell ∧ ((cellsFrom n scope.names []).lookup x.1).isSome = true))
    (hnd : ((cellsFrom 0 scope.names []).map (·.1)).Nodup)
    (hco : scope.isCoroutine = false) (hgen : scope.isGenerator = false) (hk : scope.kind = .function)
    (h : ∀ (mean : ExcName → Option Value) (mg mb : Str → Option Value) (dp un : Nat) (gd : Option (List Code)) (h₀ : Heap) (s : Shared) (L : Addr) (Qb : Flow → Shared → Prop) (cells : List (Addr × Obj)) (base : Heap) (outer : List Env),
      (∀ {v : Value} {m' : Str → Option Value} {h' : Heap} {tk' : Nat}, Fr h₀ L h' m' → post h₀ v h' → Qb (.ret v) { s with heap := h', toks := tk' }) →
      Fr h₀ L s.heap (bindL (envX qual scope L f cdv (cellsFrom (L + 1) scope.names [])).kindOf binds fun _ => none) → News h₀ L s.heap cells →
      CellsAre (bindC (envX qual scope L f cdv (cellsFrom (L + 1) scope.names [])).kindOf binds fun _ => none) (cellsFrom (L + 1) scope.names []) cells → (hd.heap_39 w.params).In h₀ → Top hd.view_39 (looseW hd.view_39 []) mean mg mb h₀ →
      Below (Ar dp un gd outer) base outer h₀ → dp + (dep + 1) < recursionLimit → un + 8 * (dep + 1) < cLine → pre h₀ →
      wpAny (model RR.row.prog w) (Ar (dp + 1) (un + 3) gd (envX qual scope L f cdv (cellsFrom (L + 1) scope.names []) :: outer)) (execs body (envX qual scope L f cdv (cellsFrom (L + 1) scope.names []))) Qb (fun _ _ => False) s) :
    CallOk w f args (dep + 1) pre post :=
  enterC binds ho hcd hbind hkind hnd hco hgen hk fun mean mg mb dp un gd s h₁ L tk cells base outer F N Y X T B hd hu hp =>
    h mean mg mb dp un gd s.heap { s with heap := h₁, toks := tk } L _ cells base outer (fun {_ _ h' tk'} F hp => ⟨h', tk', rfl, F.keep, hp⟩) F N Y X T B hd hu hp
section
variable {prog : Program} {w : World} {A : Around} {E : Value → Shared → Prop} {st : Shared} {env : Env} {h₀ : Heap} {L : Addr} {m : Str → Option Value} {n : List (Addr × Obj)} {body : List Stmt}
theorem seat_fr {h : Heap} (ps : List (Str × Value)) (F : Fr h₀ L h m) (hm : ∀ p ∈ ps, m p.1 = some p.2) : ∃ m₀, m₀ = m ∧ Fr h₀ L h (kstB m₀ ps) := by
  refine ⟨m, rfl, ?_⟩
  have e : kstB m ps = m := funext fun z => kstB_eq hm fun _ => rfl
  rw [e]
  exact F
theorem the_base {h : Heap} {m : Str → Option Value} {ps : List (Str × Value)} (_ : Fr h₀ L h (kstB m ps)) : ∃ m', m = m' := ⟨m, rfl⟩
end
theorem AllObj.mono' : ∀ (ws : List (Addr × String)) {k k' : List (Addr × Obj) → Prop}, (∀ its, k its → k' its) → AllObj ws k → AllObj ws k'
  | [], _, _, hk, h => hk _ h
  | p :: r, _, _, hk, h => fun o ho => AllObj.mono' r (fun its => hk ((p.1, o) :: its)) (h o ho)
section
variable {prog : Program} {w : World} {A : Around} {E : Value → Shared → Prop} {s : Shared} {env : Env} {h₀ : Heap} {L : Addr} {target : Expr} {body : List Stmt} {Q : Flow → Shared → Prop}
theorem for_stH {σ : Type} {ws : List (Addr × String)} {keep : List (Addr × Obj)} {m₀ : Str → Option Value} (Led : σ → List (Addr × Obj)) (ps : σ → List (Str × Value)) (stored : List Str) (P : List Itm → σ → Prop) (c₀ : σ) {xs : List Itm}
    (hk : ∀ p ∈ ps c₀, m₀ p.1 = some p.2) (hp : P xs c₀)
    (step : ∀ a r c (u : Str → Option Value) v (s₁ : Shared), P (a :: r) c → a.Is v s₁.heap → Fr h₀ env.locals s₁.heap (kstB (fun z => if stored.contains z then u z else m₀ z) (ps c)) → AllObj ws (fun its => News h₀ env.locals s₁.heap (its ++ Led c) →
      ∀ Qt : Flow → Shared → Prop, (∀ {fl : Flow} {s' : Shared}, UnrPostW h₀ env.locals s₁ its (ForNext keep Led ps stored m₀ P r) Q fl s' → Qt fl s') → (∀ {v : Value} {h' : Heap} {tk' : Nat}, Q (.ret v) { s with heap := h', toks := tk' } → Qt (.ret v) { s₁ with heap := h', toks := tk' }) → wpAny (model prog w) A (assign target env v) (fun _ s₂ => wpAny (model prog w) A (execs body env) Qt E s₂) E s₁))
    (done : ∀ c (u : Str → Option Value) h tk, P [] c → Fr h₀ env.locals h (kstB (fun z => if stored.contains z then u z else m₀ z) (ps c)) → News h₀ env.locals h (Led c) → Q .next { s with heap := h, toks := tk }) :
    ItemsRest prog w A E h₀ env target body Q s ws keep xs m₀ (Led c₀) :=
  for_st Led ps stored P c₀ hk hp (fun a r c u v h tk hP hi F => AllObj.mono' ws (fun _ hk N => hk N _ id id) (step a r c u v { s with heap := h, toks := tk } hP hi F)) done
theorem ksw_whileH {σ : Type} {test : Expr} {pos : Pos} {m₀ : Str → Option Value} (Led : σ → List (Addr × Obj)) (ps : σ → List (Str × Value)) (Facts : σ → Prop) (stored : List Str) (P : σ → Prop) (μ : σ → Nat) (c₀ : σ)
    (F : Fr h₀ L s.heap m₀) (N : News h₀ L s.heap (Led c₀)) (hf : Facts c₀) (hk : ∀ p ∈ ps c₀, m₀ p.1 = some p.2) (hp : P c₀)
    (turn : ∀ (c : σ) (u : Str → Option Value) (s₁ : Shared) (Qt : Flow → Shared → Prop) (Qf : Shared → Prop), (∀ {fl : Flow} {s' : Shared}, KswPost h₀ L s₁ Led ps Facts stored m₀ P μ Q c fl s' → Qt fl s') → (∀ {v : Value} {h' : Heap} {tk' : Nat}, Q (.ret v) { s with heap := h', toks := tk' } → Qt (.ret v) { s₁ with heap := h', toks := tk' }) → (∀ {h' : Heap} {tk' : Nat}, Q .next { s with heap := h', toks := tk' } → Qf { s₁ with heap := h', toks := tk' }) →
      Facts c → P c → Fr h₀ L s₁.heap (kstB (fun z => if stored.contains z then u z else m₀ z) (ps c)) → News h₀ L s₁.heap (Led c) →
      wpAny (model prog w) A (isTrue test env (eval test env)) (fun b s₂ => if b = true then wpAny (model prog w) A (execs body env) Qt E s₂ else Qf s₂) E s₁)
    (hE : PassesOwn (model prog w) A env E := by passes_own) :
    wpAny (model prog w) A (exec (.While test body [] pos) env) Q E s :=
  ksw_while Led ps Facts stored P μ c₀ F N hf hk hp (fun c u h tk hf hp F N => turn c u { s with heap := h, toks := tk } _ _ (fun {fl _} x => by cases fl <;> exact x) id id hf hp F N) hE
end
section
variable {prog : Program} {w : World} {A : Around} {h₀ : Heap} {L : Addr} {m : Str → Option Value} {env : Env} {elt : Expr} {x : Str} {scope : Scope} {cl : List (Str × Addr)} {s : Shared} {S : List (Addr × Obj) → Prop} {P : Nat → Value → Prop} {Fin : List Value → List (Addr × Obj) → Prop}
theorem comp_stH {σ : Type} {n : Nat} (Led : σ → List (Addr × Obj)) (J : Nat → List Value → σ → Prop) (c₀ : σ) (h0 : J 0 [] c₀)
    (step : ∀ i ys c v I oI C oC D m₂ (s₁ : Shared) (Qt E' : Value → Shared → Prop), (∀ {y : Value} {s' : Shared}, LCg.CompEnd h₀ L m s₁ I oI C oC D (LCg.lst ys) S (CompNext Led J i ys) y s' → Qt y s') → i < n → J i ys c → P i v → LCg.NsObj oC m₂ → m₂ x = some v → Fr h₀ L s₁.heap m → News h₀ L s₁.heap ((I, oI) :: (C, oC) :: (D, LCg.lst ys) :: Led c) → LCg.Off3 I C D (Led c) → ((@Ne Nat I C) ∧ (@Ne Nat I D) ∧ (@Ne Nat C D)) →
      wpAny (model prog w) A (eval elt (compEnvC scope cl C env)) Qt E' s₁)
    (fin : ∀ ys c, J n ys c → Fin ys (Led c)) : LCg.CompRest prog w A h₀ L m env elt x scope cl s S P Fin n 0 [] (Led c₀) :=
  comp_st Led J c₀ h0 (fun i ys c v I oI C oC D m₂ h tk E' hi hJ hP hC hx F N off ne => step i ys c v I oI C oC D m₂ { s with heap := h, toks := tk } _ E' id hi hJ hP hC hx F N off ne) fin
end
section
variable {prog : Program} {w : World} {A : Around} {h₀ : Heap} {L : Addr} {m : Str → Option Value} {env : Env} {ct elt : Expr} {x : Str} {scope : Scope} {cl : List (Str × Addr)} {s : Shared} {S : List (Addr × Obj) → Prop} {P : Nat → Value → Prop} {Fin : List Value → List (Addr × Obj) → Prop} {news : List (Addr × Obj)} {n : Nat}
theorem compT_noneH (turn : ∀ i v I oI C oC D m₂ (s₁ : Shared) (Qf : Shared → Prop) (E' : Value → Shared → Prop), (∀ {s' : Shared}, LCg.CompEnd h₀ L m s₁ I oI C oC D (LCg.lst []) S (fun _ news' => news' = news) Value.none s' → Qf s') → i < n → P i v → LCg.NsObj oC m₂ → m₂ x = some v → Fr h₀ L s₁.heap m → News h₀ L s₁.heap ((I, oI) :: (C, oC) :: (D, LCg.lst []) :: news) → LCg.Off3 I C D news → ((@Ne Nat I C) ∧ (@Ne Nat I D) ∧ (@Ne Nat C D)) →
      wpAny (model prog w) A (isTrue ct (compEnvC scope cl C env) (eval ct (compEnvC scope cl C env))) (fun b s' => if b = true then False else Qf s') E' s₁)
    (fin : Fin [] news) : LCt.CompRestT prog w A h₀ L m env ct elt x scope cl s S P Fin n 0 [] news :=
  compT_none (fun i v I oI C oC D m₂ h tk E' hi hP hC hx F N off ne => turn i v I oI C oC D m₂ { s with heap := h, toks := tk } _ E' id hi hP hC hx F N off ne) fin
end
theorem enterDH {w : World} {f : Addr} {args : Addr → List Value} {dep : Nat} {k k' : Int} {ns ns' : List Int} {post : Heap → Value → Heap → Prop}
    {name qual : Str} {params : Arguments} {body : List Stmt} {scope : Scope} {dV kV doc pm cdv ct oc : Value} {an od : Option Addr} {osl : Array (Option Value)} (binds : Addr → List (Str × Value))
    (ho : (hd.heap_39 w.params).lookup f = some ⟨oc, od, .func (fnOf name qual params body scope dV kV doc pm an cdv ct), osl⟩) (hcd : codeIn (hd.heap_39 w.params) cdv qual = true)
    (hbind : ∀ B s, BindsTo s (fnOf name qual params body scope dV kV doc pm an cdv ct) ⟨args B, []⟩ (binds B))
    (hkind : ∀ B n, ∀ x ∈ binds B, scope.names.lookup x.1 = some .local ∨ (scope.names.lookup x.1 = some .cell ∧ ((cellsFrom n scope.names []).lookup x.1).isSome = true))
    (hnd : ((cellsFrom 0 scope.names []).map (·.1)).Nodup)
    (hco : scope.isCoroutine = false) (hgen : scope.isGenerator = false) (hk : scope.kind = .function)
    (h : ∀ (mean : ExcName → Option Value) (mg mb : Str → Option Value) (dp un : Nat) (gd : Option (List Code)) (hB : Heap) (s : Shared) (L : Addr) (Qb : Flow → Shared → Prop) (cells : List (Addr × Obj)) (base : Heap) (outer : List Env) (B q : Addr) (t : Tok) (n : Nat) (us : List Value) (n2 : Nat),
      (∀ {v : Value} {m' : Str → Option Value} {h' : Heap} {tk' : Nat} {t' : Tok} {n' n2' : Nat} {us' : List Value} {news : List (Addr × Obj)}, Fr (Hid hB B q) L h' m' → News (Hid hB B q) L h' news → (B, boxO q k' t' n') ∈ news → (q, lst us' n2') ∈ news → IntsAre us' ns' → post hB v h' → Qb (.ret v) { s with heap := h', toks := tk' }) →
      Fr (Hid hB B q) L s.heap (bindL (envX qual scope L f cdv (cellsFrom (L + 1) scope.names [])).kindOf (binds B) fun _ => none) → News (Hid hB B q) L s.heap (cells ++ [(B, boxO q k t n), (q, lst us n2)]) →
      CellsAre (bindC (envX qual scope L f cdv (cellsFrom (L + 1) scope.names [])).kindOf (binds B) fun _ => none) (cellsFrom (L + 1) scope.names []) cells → (hd.heap_39 w.params).In (Hid hB B q) → Top hd.view_39 (looseW hd.view_39 []) mean mg mb (Hid hB B q) →
      Below (Ar dp un gd outer) base outer (Hid hB B q) → dp + (dep + 1) < recursionLimit → un + 8 * (dep + 1) < cLine → IntsAre us ns → B ≠ q → B < L → q < L →
      wpAny (model RR.row.prog w) (Ar (dp + 1) (un + 3) gd (envX qual scope L f cdv (cellsFrom (L + 1) scope.names []) :: outer)) (execs body (envX qual scope L f cdv (cellsFrom (L + 1) scope.names [])))
        Qb (fun _ _ => False) s) :
    DrawOk w f args (dep + 1) k ns k' ns' post :=
  enterD binds ho hcd hbind hkind hnd hco hgen hk fun mean mg mb dp un gd s h₁ L tk cells base outer B q t n us n2 F N Y X T Bl hd hu hi hne lB lq =>
    h mean mg mb dp un gd s.heap { s with heap := h₁, toks := tk } L _ cells base outer B q t n us n2 (fun {_ _ h' tk' _ _ _ _ _} F N h1 h2 hi hp => DoneD.of F N h1 h2 hi hp) F N Y X T Bl hd hu hi hne lB lq
end Mine
end

section
open PySem PySem.W PySem.Calls PySem.Spec PyProof.Rows
namespace Mine
/-- the size of a list's numbers -/
def Sm (n : Nat) (ns : List Int) : Prop := ∀ x ∈ ns, Builtin.Int.intBits x ≤ n
theorem Sm.mono {m n : Nat} {ns : List Int} (h : Sm m ns) (hmn : m ≤ n) : Sm n ns := fun x hx => Nat.le_trans (h x hx) hmn
/-! the list without its last zeros -/
def trimN : List Int → List Int
  | [] => []
  | x :: r => match trimN r with
    | [] => if x = 0 then [] else [x]
    | y :: t => x :: y :: t
theorem trimN_nil : trimN [] = [] := rfl
theorem trimN_snoc0 : ∀ ns : List Int, trimN (ns ++ [0]) = trimN ns
  | [] => rfl
  | x :: r => by
    show trimN (x :: (r ++ [0])) = trimN (x :: r)
    unfold trimN
    rw [trimN_snoc0 r]
theorem trimN_snoc : ∀ (ns : List Int) {k : Int}, k ≠ 0 → trimN (ns ++ [k]) = ns ++ [k]
  | [], k, h => by simp [trimN, h]
  | x :: r, k, h => by
    show trimN (x :: (r ++ [k])) = x :: (r ++ [k])
    unfold trimN
    rw [trimN_snoc r h]
    cases r <;> rfl
theorem trimN_len : ∀ ns : List Int, (trimN ns).length ≤ ns.length
  | [] => Nat.le_refl _
  | x :: r => by
    have := trimN_len r
    unfold trimN
    split
    · split <;> simp
    · rename_i y t e
      rw [e] at this
      simpa using this
theorem trimN_mem : ∀ (ns : List Int), ∀ y ∈ trimN ns, y ∈ ns
  | [], _, h => h
  | x :: r, y, h => by
    have ih := trimN_mem r
    unfold trimN at h
    split at h
    · split at h
      · cases h
      · rw [List.mem_singleton.mp h]; exact .head _
    · rename_i z t e
      rcases List.mem_cons.mp h with rfl | h
      · exact .head _
      · exact .tail _ (ih y (e ▸ h))
theorem Sm.trim {n : Nat} {ns : List Int} (h : Sm n ns) : Sm n (trimN ns) := fun x hx => h x (trimN_mem ns x hx)
/-- no zero at the end -/
def Lead (ns : List Int) : Prop := ns.getLastD 1 ≠ 0
theorem lead_nil : Lead [] := by show (1 : Int) ≠ 0; decide
theorem Lead.snoc {ns : List Int} {k : Int} (h : k ≠ 0) : Lead (ns ++ [k]) := by simpa [Lead] using h
theorem lead_cases {ns : List Int} (h : Lead ns) : ns = [] ∨ ∃ r k, ns = r ++ [k] ∧ k ≠ 0 := by
  rcases List.eq_nil_or_concat ns with rfl | ⟨r, k, rfl⟩
  · exact .inl rfl
  · exact .inr ⟨r, k, by simp, by simpa [Lead] using h⟩
theorem trimN_of_lead {ns : List Int} (h : Lead ns) : trimN ns = ns := by
  rcases lead_cases h with rfl | ⟨r, k, rfl, hk⟩
  · rfl
  · exact trimN_snoc r hk
theorem trimN_lead : ∀ ns : List Int, Lead (trimN ns)
  | [] => lead_nil
  | x :: r => by
    have ih := trimN_lead r
    unfold trimN
    split
    · split
      · exact lead_nil
      · rename_i h; simpa [Lead] using h
    · rename_i y t e
      rw [e] at ih
      simpa [Lead] using ih
/-! sums -/
def addR : List Int → List Int → List Int
  | [], ms => ms
  | x :: xs, [] => x :: xs
  | x :: xs, y :: ys => (x + y) :: addR xs ys
def addN (a b : List Int) : List Int := trimN (addR a b)
def negN (a : List Int) : List Int := a.map fun x => -x
def subN (a b : List Int) : List Int := addN a (negN b)
def scaleN (p : List Int) (k : Int) : List Int := if k ≠ 0 then p.map fun x => x * k else []
def raiseN (p : List Int) (k : Nat) : List Int := if p = [] then [] else List.replicate k 0 ++ p
def divN (p : List Int) (k : Int) : List Int := p.map fun x => x.fdiv k
def contN (p : List Int) : Int := p.foldl (fun (g : Int) x => (Int.gcd g x : Int)) 0
def primN (p : List Int) : List Int := if p = [] then [] else divN p (if 0 < p.getLastD 0 then contN p else -contN p)
theorem addR_len : ∀ a b : List Int, (addR a b).length = max a.length b.length
  | [], b => by simp [addR]
  | _ :: _, [] => by simp [addR]
  | x :: xs, y :: ys => by simp [addR, addR_len xs ys]
theorem addR_get : ∀ (a b : List Int) (i : Nat), (addR a b).getD i 0 = a.getD i 0 + b.getD i 0
  | [], b, i => by simp [addR]
  | _ :: _, [], i => by simp [addR]
  | x :: xs, y :: ys, 0 => by simp [addR]
  | x :: xs, y :: ys, i + 1 => by
    have := addR_get xs ys i
    simpa [addR] using this
theorem addN_len (a b : List Int) : (addN a b).length ≤ max a.length b.length := by
  have := trimN_len (addR a b)
  rw [addR_len] at this
  exact this
theorem addN_lead (a b : List Int) : Lead (addN a b) := trimN_lead _
theorem Sm.addR {n : Nat} : ∀ {a b : List Int}, Sm n a → Sm n b → Sm (n + 1) (addR a b)
  | [], b, _, hb => hb.mono (Nat.le_succ _)
  | _ :: _, [], ha, _ => ha.mono (Nat.le_succ _)
  | x :: xs, y :: ys, ha, hb => by
    intro z hz
    rcases List.mem_cons.mp hz with rfl | hz
    · have := intBits_add_le (ha x (.head _)) (hb y (.head _))
      omega
    · exact Sm.addR (fun u hu => ha u (.tail _ hu)) (fun u hu => hb u (.tail _ hu)) z hz
theorem Sm.add {n : Nat} {a b : List Int} (ha : Sm n a) (hb : Sm n b) : Sm (n + 1) (addN a b) := (ha.addR hb).trim
theorem negN_len (a : List Int) : (negN a).length = a.length := by simp [negN]
theorem Sm.neg {n : Nat} {a : List Int} (ha : Sm n a) : Sm n (negN a) := by
  intro x hx
  obtain ⟨y, hy, rfl⟩ := List.mem_map.mp hx
  exact intBits_neg_le (ha y hy)
theorem Sm.sub {n : Nat} {a b : List Int} (ha : Sm n a) (hb : Sm n b) : Sm (n + 1) (subN a b) := ha.add hb.neg
theorem subN_len (a b : List Int) : (subN a b).length ≤ max a.length b.length := by
  have := addN_len a (negN b)
  rw [negN_len] at this
  exact this
theorem subN_lead (a b : List Int) : Lead (subN a b) := trimN_lead _
theorem scaleN_len (p : List Int) (k : Int) : (scaleN p k).length ≤ p.length := by unfold scaleN; split <;> simp
theorem scaleN_len' {p : List Int} {k : Int} (hk : k ≠ 0) : (scaleN p k).length = p.length := by unfold scaleN; rw [if_pos hk]; simp
theorem Sm.scale {m n : Nat} {a : List Int} {k : Int} (ha : Sm m a) (hk : Builtin.Int.intBits k ≤ n) : Sm (m + n) (scaleN a k) := by
  unfold scaleN
  split
  · intro x hx
    obtain ⟨y, hy, rfl⟩ := List.mem_map.mp hx
    exact intBits_mul_le (ha y hy) hk
  · intro x hx; cases hx
theorem scaleN_lead {p : List Int} {k : Int} (h : Lead p) : Lead (scaleN p k) := by
  unfold scaleN
  split
  · rename_i hk
    rcases lead_cases h with rfl | ⟨r, c, rfl, hc⟩
    · exact lead_nil
    · rw [List.map_append]
      exact Lead.snoc (Int.mul_ne_zero hc hk)
  · exact lead_nil
theorem raiseN_len (p : List Int) (k : Nat) : (raiseN p k).length ≤ k + p.length := by unfold raiseN; split <;> simp
theorem Sm.raise {n : Nat} {a : List Int} {k : Nat} (ha : Sm n a) : Sm n (raiseN a k) := by
  unfold raiseN
  split
  · intro x hx; cases hx
  · intro x hx
    rcases List.mem_append.mp hx with hx | hx
    · rw [List.eq_of_mem_replicate hx]; exact Nat.zero_le _
    · exact ha x hx
theorem divN_len (p : List Int) (k : Int) : (divN p k).length = p.length := by simp [divN]
theorem Sm.div {n : Nat} {a : List Int} {k : Int} (ha : Sm n a) : Sm n (divN a k) := by
  intro x hx
  obtain ⟨y, hy, rfl⟩ := List.mem_map.mp hx
  exact intBits_fdiv_le (ha y hy)
end Mine
end

section
open PySem PySem.W PySem.Calls PySem.Spec PyProof.Rows
namespace Mine
/-! the pseudo division -/
def pstep (b : List Int) (f : Int) (r : List Int) : List Int := subN (scaleN r f) (raiseN (scaleN b (r.getLastD 0)) (r.length - b.length))
def pgo (b : List Int) (f : Int) : Nat → List Int → Nat → List Int
  | 0, r, left => scaleN r (f ^ left)
  | n + 1, r, left => if b.length ≤ r.length then pgo b f n (pstep b f r) (left - 1) else scaleN r (f ^ left)
def premN (a b : List Int) : List Int := pgo b (b.getLastD 0) a.length a (a.length + 1 - b.length)
def nextH (f : Int) (st : Nat) (h : Int) : Int := if st = 0 then h else (f ^ st).fdiv (h ^ (st - 1))
theorem trimN_short {ns : List Int} (h0 : ns ≠ []) (h : ns.getD (ns.length - 1) 0 = 0) : (trimN ns).length + 1 ≤ ns.length := by
  rcases List.eq_nil_or_concat ns with rfl | ⟨r, k, rfl⟩
  · exact absurd rfl h0
  · have hk : k = 0 := by simpa using h
    subst hk
    have e : r.concat 0 = r ++ [0] := List.concat_eq_append
    rw [e, trimN_snoc0]
    have := trimN_len r
    simp
    omega
theorem getLastD_getD (ns : List Int) (d : Int) : ns.getLastD d = ns.getD (ns.length - 1) d := by
  rw [List.getLastD_eq_getLast?, List.getLast?_eq_getElem?, List.getD_eq_getElem?_getD]
theorem negN_get (a : List Int) (i : Nat) : (negN a).getD i 0 = -(a.getD i 0) := by
  unfold negN
  by_cases h : i < a.length
  · simp [List.getD_eq_getElem?_getD, h]
  · have : a.length ≤ i := by omega
    simp [List.getD_eq_getElem?_getD, this]
theorem scaleN_get (a : List Int) (k : Int) (i : Nat) : (scaleN a k).getD i 0 = a.getD i 0 * k := by
  unfold scaleN
  split
  · by_cases h : i < a.length
    · simp [List.getD_eq_getElem?_getD, h]
    · have : a.length ≤ i := by omega
      simp [List.getD_eq_getElem?_getD, this]
  · rename_i h
    have : k = 0 := by omega
    simp [this]
theorem raiseN_get (a : List Int) (k i : Nat) : (raiseN a k).getD i 0 = if i < k then 0 else a.getD (i - k) 0 := by
  unfold raiseN
  split
  · rename_i h; subst h; split <;> simp
  · by_cases h : i < k
    · rw [if_pos h]; simp [List.getD_eq_getElem?_getD, List.getElem?_append, h]
    · rw [if_neg h]; simp [List.getD_eq_getElem?_getD, List.getElem?_append, h]
theorem raiseN_len' {a : List Int} {k : Nat} (h : a ≠ []) : (raiseN a k).length = k + a.length := by unfold raiseN; rw [if_neg h]; simp
theorem scaleN_ne {a : List Int} {k : Int} (h : a ≠ []) (hk : k ≠ 0) : scaleN a k ≠ [] := by
  intro e
  have := scaleN_len' (p := a) hk
  rw [e] at this
  exact h (List.eq_nil_of_length_eq_zero this.symm)
theorem pstep_len {b r : List Int} {f : Int} (hb : b ≠ []) (hf : f = b.getLastD 0) (h0 : f ≠ 0) (hl : b.length ≤ r.length) : (pstep b f r).length + 1 ≤ r.length := by
  have hb1 := List.length_pos_iff.mpr hb
  have hr : r ≠ [] := by intro e; rw [e] at hl; simp at hl; exact hb hl
  unfold pstep subN addN
  have hX : (scaleN r f).length = r.length := scaleN_len' h0
  have hY : (raiseN (scaleN b (r.getLastD 0)) (r.length - b.length)).length ≤ r.length := by
    have h1 := raiseN_len (scaleN b (r.getLastD 0)) (r.length - b.length)
    have h2 := scaleN_len b (r.getLastD 0)
    omega
  have hL : (addR (scaleN r f) (negN (raiseN (scaleN b (r.getLastD 0)) (r.length - b.length)))).length = r.length := by
    rw [addR_len, negN_len, hX]; omega
  have hne : addR (scaleN r f) (negN (raiseN (scaleN b (r.getLastD 0)) (r.length - b.length))) ≠ [] := by
    intro e
    rw [e] at hL
    simp at hL
    omega
  have := trimN_short hne (by
    rw [hL, addR_get, negN_get, raiseN_get, if_neg (by omega), scaleN_get, scaleN_get, ← getLastD_getD]
    have e : r.length - 1 - (r.length - b.length) = b.length - 1 := by omega
    rw [e, ← getLastD_getD, ← hf, Int.mul_comm]
    omega)
  rw [hL] at this
  exact this
theorem pstep_lead (b : List Int) (f : Int) (r : List Int) : Lead (pstep b f r) := subN_lead _ _
theorem Sm.last {n : Nat} {a : List Int} (h : Sm n a) : Builtin.Int.intBits (a.getLastD 0) ≤ n := by
  rcases List.eq_nil_or_concat a with rfl | ⟨r, k, rfl⟩
  · exact Nat.zero_le _
  · have := h k (by simp)
    simpa using this
theorem Sm.getD {n : Nat} {a : List Int} (h : Sm n a) (i : Nat) : Builtin.Int.intBits (a.getD i 0) ≤ n := by
  rw [List.getD_eq_getElem?_getD]
  by_cases hi : i < a.length
  · rw [List.getElem?_eq_getElem hi]; exact h _ (List.getElem_mem hi)
  · rw [List.getElem?_eq_none (by omega)]; exact Nat.zero_le _
theorem Sm.pstep {m n : Nat} {b r : List Int} {f : Int} (hb : Sm m b) (hf : Builtin.Int.intBits f ≤ m) (hr : Sm n r) : Sm (n + m + 1) (pstep b f r) := by
  refine Sm.sub (hr.scale hf) (Sm.raise ?_)
  have := hb.scale hr.last
  rw [Nat.add_comm] at this
  exact this
theorem pgo_lead {b : List Int} {f : Int} : ∀ (n : Nat) (r : List Int) (left : Nat), Lead r → Lead (pgo b f n r left)
  | 0, _, _, h => scaleN_lead h
  | n + 1, r, left, h => by
    unfold pgo
    split
    · exact pgo_lead n _ _ (pstep_lead b f r)
    · exact scaleN_lead h
theorem pgo_stop {b : List Int} {f : Int} {n : Nat} {r : List Int} {left : Nat} (h : ¬ b.length ≤ r.length) : pgo b f n r left = scaleN r (f ^ left) := by
  cases n with
  | zero => rfl
  | succ n => unfold pgo; rw [if_neg h]
theorem pgo_go {b : List Int} {f : Int} {n : Nat} {r : List Int} {left : Nat} (h : b.length ≤ r.length) : pgo b f (n + 1) r left = pgo b f n (pstep b f r) (left - 1) := by
  conv => lhs; unfold pgo
  rw [if_pos h]
end Mine
end

section
open PySem PySem.W PySem.Calls PySem.Spec PyProof.Rows
namespace Mine
theorem pgo_len {b : List Int} {f : Int} : ∀ (n : Nat) (r : List Int) (left : Nat), (pgo b f n r left).length ≤ r.length
  | 0, _, _ => scaleN_len _ _
  | n + 1, r, left => by
    unfold pgo
    split
    · rename_i h
      refine Nat.le_trans (pgo_len n _ _) (Nat.le_trans (subN_len _ _) (Nat.max_le.mpr ⟨scaleN_len _ _, Nat.le_trans (raiseN_len _ _) ?_⟩))
      have := scaleN_len b (r.getLastD 0)
      omega
    · exact scaleN_len _ _
theorem premN_len (a b : List Int) : (premN a b).length ≤ a.length := pgo_len _ _ _
/-! the row of subresultants -/
def subGo : Nat → List Int → List Int → List (List Int) → Int → Int → List (List Int)
  | 0, _, _, row, _, _ => row
  | n + 1, a, b, row, f, h =>
    if 1 < b.length then
      if premN a b = [] then row
      else subGo n b (divN (premN a b) (f * h ^ (a.length - b.length))) (row ++ [divN (premN a b) (f * h ^ (a.length - b.length))]) (b.getLastD 0) (nextH (b.getLastD 0) (a.length - b.length) h)
    else row
def subresO (a b : List Int) : List (List Int) := subGo b.length a b [a, b] 1 1
def subresN (a b : List Int) : List (List Int) := if a.length < b.length then subresO b a else subresO a b
/-- what the run asks at each turn -/
def Fine : Nat → List Int → List Int → Int → Int → Prop
  | 0, _, b, _, _ => b.length ≤ 1
  | n + 1, a, b, f, h => 1 < b.length →
      (a.length ≤ 8 ∧ b.length ≤ a.length ∧ b.getLastD 0 ≠ 0 ∧ Sm 1000000 a ∧ Sm 1000000 b ∧ Builtin.Int.intBits f ≤ 1000000 ∧ Builtin.Int.intBits h ≤ 1000000 ∧ h ≠ 0 ∧ f ≠ 0) ∧
      (premN a b ≠ [] → (premN a b).length < b.length ∧ Fine n b (divN (premN a b) (f * h ^ (a.length - b.length))) (b.getLastD 0) (nextH (b.getLastD 0) (a.length - b.length) h))
def FineO (a b : List Int) : Prop := Fine b.length a b 1 1
def FineN (a b : List Int) : Prop := if a.length < b.length then FineO b a else FineO a b
theorem fine_go {n : Nat} {a b : List Int} {f h : Int} (hf : Fine n a b f h) (h1 : 1 < b.length) : ∃ k, n = k + 1 ∧
    (a.length ≤ 8 ∧ b.length ≤ a.length ∧ b.getLastD 0 ≠ 0 ∧ Sm 1000000 a ∧ Sm 1000000 b ∧ Builtin.Int.intBits f ≤ 1000000 ∧ Builtin.Int.intBits h ≤ 1000000 ∧ h ≠ 0 ∧ f ≠ 0) ∧
      (premN a b ≠ [] → (premN a b).length < b.length ∧ Fine k b (divN (premN a b) (f * h ^ (a.length - b.length))) (b.getLastD 0) (nextH (b.getLastD 0) (a.length - b.length) h)) := by
  cases n with
  | zero => exact absurd h1 (Nat.not_lt.mpr hf)
  | succ k => exact ⟨k, rfl, hf h1⟩
theorem subGo_stop {n : Nat} {a b : List Int} {row : List (List Int)} {f h : Int} (h1 : ¬ 1 < b.length) : subGo n a b row f h = row := by
  cases n with
  | zero => rfl
  | succ n => unfold subGo; rw [if_neg h1]
theorem subGo_end {n : Nat} {a b : List Int} {row : List (List Int)} {f h : Int} (h1 : premN a b = []) : subGo n a b row f h = row := by
  cases n with
  | zero => rfl
  | succ n => unfold subGo; split <;> simp [h1]
theorem subGo_go {n : Nat} {a b : List Int} {row : List (List Int)} {f h : Int} (h1 : 1 < b.length) (h2 : premN a b ≠ []) :
    subGo (n + 1) a b row f h = subGo n b (divN (premN a b) (f * h ^ (a.length - b.length))) (row ++ [divN (premN a b) (f * h ^ (a.length - b.length))]) (b.getLastD 0) (nextH (b.getLastD 0) (a.length - b.length) h) := by
  conv => lhs; unfold subGo
  rw [if_pos h1, if_neg h2]
end Mine
end

section
open PySem PySem.W PySem.Calls PySem.Spec PyProof.Rows
namespace Mine
/-! zgcd -/
def normN (p : List Int) : List Int := scaleN (primN p) (contN p)
def zlastN (a b : List Int) : List Int := (subresN (primN a) (primN b)).getLastD []
def zgcdN (a b : List Int) : List Int :=
  if a = [] then normN b else if b = [] then normN a
  else if 1 < (zlastN a b).length then scaleN (primN (zlastN a b)) (Int.gcd (contN a) (contN b) : Int) else [(Int.gcd (contN a) (contN b) : Int)]
theorem cont_go {n : Nat} : ∀ (p : List Int) (g : Int), Builtin.Int.intBits g ≤ n → Sm n p → Builtin.Int.intBits (p.foldl (fun (g : Int) x => (Int.gcd g x : Int)) g) ≤ n
  | [], g, hg, _ => hg
  | x :: r, g, hg, hp => by
    refine cont_go r _ ?_ (fun y hy => hp y (.tail _ hy))
    show Builtin.Int.intBits (Int.gcd g x : Int) ≤ n
    by_cases h0 : g = 0
    · subst h0
      rw [Int.gcd_zero_left]
      exact intBits_natAbs_le (hp x (.head _))
    · refine intBits_le_of_natAbs ?_ hg
      have := Nat.le_of_dvd (Int.natAbs_pos.mpr h0) (Int.natAbs_dvd_natAbs.mpr (Int.gcd_dvd_left g x))
      simpa using this
theorem contN_bits {n : Nat} {p : List Int} (h : Sm n p) : Builtin.Int.intBits (contN p) ≤ n := cont_go p 0 (Nat.zero_le _) h
theorem primN_len (p : List Int) : (primN p).length = p.length := by
  unfold primN
  split
  · rename_i h; rw [h]
  · exact divN_len _ _
theorem Sm.prim {n : Nat} {p : List Int} (h : Sm n p) : Sm n (primN p) := by
  unfold primN
  split
  · exact fun x hx => nomatch hx
  · exact h.div
/-- what a run of zgcd asks -/
def GFine (a b : List Int) : Prop :=
  a.length ≤ 8 ∧ b.length ≤ 8 ∧ Sm 60000000 a ∧ Sm 60000000 b ∧ (a ≠ [] → contN a ≠ 0) ∧ (b ≠ [] → contN b ≠ 0) ∧
    (a ≠ [] → b ≠ [] → FineN (primN a) (primN b) ∧ contN (zlastN a b) ≠ 0 ∧ (zlastN a b).length ≤ 8 ∧ Sm 60000000 (zlastN a b))
theorem subGo_ne : ∀ (n : Nat) (a b : List Int) (row : List (List Int)) (f h : Int), row ≠ [] → subGo n a b row f h ≠ []
  | 0, _, _, _, _, _, hr => hr
  | n + 1, a, b, row, f, h, hr => by
    unfold subGo
    split
    · split
      · exact hr
      · exact subGo_ne n _ _ _ _ _ (by simp)
    · exact hr
theorem subresN_ne (a b : List Int) : subresN a b ≠ [] := by
  unfold subresN subresO
  split <;> exact subGo_ne _ _ _ _ _ _ (by simp)
/-- what a run of zgcd_all asks -/
def GAll : List Int → List (List Int) → Prop
  | _, [] => True
  | f, p :: r => GFine f p ∧ GAll (zgcdN f p) r
def zgcdAllN (row : List (List Int)) : List Int := row.foldl zgcdN []
theorem normN_len (p : List Int) : (normN p).length ≤ p.length := Nat.le_trans (scaleN_len _ _) (Nat.le_of_eq (primN_len p))
theorem zgcdN_len {a b : List Int} (h : GFine a b) : (zgcdN a b).length ≤ 8 := by
  unfold zgcdN
  split
  · exact Nat.le_trans (normN_len b) h.2.1
  · split
    · exact Nat.le_trans (normN_len a) h.1
    · rename_i ea eb
      split
      · exact Nat.le_trans (scaleN_len _ _) (Nat.le_trans (Nat.le_of_eq (primN_len _)) (h.2.2.2.2.2.2 ea eb).2.2.1)
      · simp
end Mine
end

section
open PySem PySem.W PySem.Calls PySem.Spec PyProof.Rows
namespace Mine
/-! the law's product -/
def addAt (f : List Int) (i : Nat) (k : Int) : List Int := f.set i (f.getD i 0 + k)
def prodIn (x : Int) (i : Nat) : List Int → Nat → List Int → List Int
  | [], _, f => f
  | y :: r, j, f => prodIn x i r (j + 1) (addAt f (i + j) (x * y))
def prodOut (ms : List Int) : List Int → Nat → List Int → List Int
  | [], _, f => f
  | x :: r, i, f => prodOut ms r (i + 1) (prodIn x i ms 0 f)
def productN (ns ms : List Int) : List Int := prodOut ms ns 0 (List.replicate (ns.length + ms.length - 1) 0)
theorem addAt_len (f : List Int) (i : Nat) (k : Int) : (addAt f i k).length = f.length := by simp [addAt]
theorem prodIn_len (x : Int) (i : Nat) : ∀ (ms : List Int) (j : Nat) (f : List Int), (prodIn x i ms j f).length = f.length
  | [], _, _ => rfl
  | y :: r, j, f => by unfold prodIn; rw [prodIn_len x i r, addAt_len]
theorem prodOut_len (ms : List Int) : ∀ (ns : List Int) (i : Nat) (f : List Int), (prodOut ms ns i f).length = f.length
  | [], _, _ => rfl
  | x :: r, i, f => by unfold prodOut; rw [prodOut_len ms r, prodIn_len]
theorem productN_len (ns ms : List Int) : (productN ns ms).length = ns.length + ms.length - 1 := by unfold productN; rw [prodOut_len]; simp
end Mine
end

section
open PySem PySem.W PySem.Calls PySem.Spec PyProof.Rows
namespace Mine
/-! the law's determinant -/
def lessR (i : Nat) (r : List Int) : List Int := r.take i ++ r.drop (i + 1)
def detSum (d : List (List Int) → Int) (rest : List (List Int)) : List Int → Nat → Int → Int
  | [], _, w => w
  | x :: r, i, w => detSum d rest r (i + 1) (if x ≠ 0 then w + (1 - 2 * ((i : Int).fmod 2)) * x * d (rest.map (lessR i)) else w)
def detF : Nat → List (List Int) → Int
  | 0, _ => 1
  | _ + 1, [] => 1
  | n + 1, r :: rest => detSum (detF n) rest r 0 0
def detN (rows : List (List Int)) : Int := detF rows.length rows
theorem Sm.less {n i : Nat} {r : List Int} (h : Sm n r) : Sm n (lessR i r) := by
  intro x hx
  rcases List.mem_append.mp hx with hx | hx
  · exact h x (List.mem_of_mem_take hx)
  · exact h x (List.mem_of_mem_drop hx)
theorem lessR_len (i : Nat) (r : List Int) : (lessR i r).length ≤ r.length := by unfold lessR; simp; omega
/-- all rows short and small -/
def RowsSm (l n : Nat) (rows : List (List Int)) : Prop := ∀ r ∈ rows, r.length ≤ l ∧ Sm n r
theorem RowsSm.less {l n i : Nat} {rows : List (List Int)} (h : RowsSm l n rows) : RowsSm l n (rows.map (lessR i)) := by
  intro r hr
  obtain ⟨q, hq, rfl⟩ := List.mem_map.mp hr
  exact ⟨Nat.le_trans (lessR_len i q) (h q hq).1, (h q hq).2.less⟩
theorem sign_bits (i : Nat) : Builtin.Int.intBits (1 - 2 * ((i : Int).fmod 2)) ≤ 1 := by
  have h1 := Int.fmod_nonneg_of_pos (i : Int) (b := 2) (by omega)
  have h2 := Int.fmod_lt_of_pos (i : Int) (b := 2) (by omega)
  have : (i : Int).fmod 2 = 0 ∨ (i : Int).fmod 2 = 1 := by omega
  rcases this with e | e <;> rw [e] <;> decide
theorem detSum_bits {b m : Nat} {d : List (List Int) → Int} {rest : List (List Int)} (hd : ∀ i, Builtin.Int.intBits (d (rest.map (lessR i))) ≤ m) :
    ∀ (r : List Int) (i : Nat) (w : Int) (k : Nat), Sm b r → Builtin.Int.intBits w ≤ 1 + b + m + k → Builtin.Int.intBits (detSum d rest r i w) ≤ 1 + b + m + k + r.length
  | [], _, _, _, _, hw => hw
  | x :: r, i, w, k, hs, hw => by
    unfold detSum
    have : Builtin.Int.intBits (if x ≠ 0 then w + (1 - 2 * ((i : Int).fmod 2)) * x * d (rest.map (lessR i)) else w) ≤ 1 + b + m + (k + 1) := by
      split
      · have h1 : Builtin.Int.intBits ((1 - 2 * ((i : Int).fmod 2)) * x * d (rest.map (lessR i))) ≤ 1 + b + m := intBits_mul_le (intBits_mul_le (sign_bits i) (hs x (.head _))) (hd i)
        have h2 := intBits_add_le (n := 1 + b + m + k) hw (Nat.le_trans h1 (Nat.le_add_right _ _))
        exact Nat.le_trans h2 (by rw [Nat.max_self]; omega)
      · exact Nat.le_trans hw (by omega)
    have := detSum_bits hd r (i + 1) _ (k + 1) (fun z hz => hs z (.tail _ hz)) this
    simp only [List.length_cons]
    omega
theorem detF_bits {b l : Nat} : ∀ (n : Nat) (rows : List (List Int)), RowsSm l b rows → Builtin.Int.intBits (detF n rows) ≤ 1 + n * (b + l + 1)
  | 0, _, _ => by show Builtin.Int.intBits 1 ≤ _; rw [Nat.zero_mul]; decide
  | n + 1, [], _ => by show Builtin.Int.intBits 1 ≤ _; exact Nat.le_trans (by decide : Builtin.Int.intBits 1 ≤ 1) (by omega)
  | n + 1, r :: rest, h => by
    have hr := h r (.head _)
    have hrest : RowsSm l b rest := fun q hq => h q (.tail _ hq)
    have := detSum_bits (d := detF n) (rest := rest) (b := b) (m := 1 + n * (b + l + 1)) (fun i => detF_bits n _ hrest.less) r 0 0 0 hr.2 (Nat.zero_le _)
    show Builtin.Int.intBits (detSum (detF n) rest r 0 0) ≤ _
    have e : (n + 1) * (b + l + 1) = n * (b + l + 1) + (b + l + 1) := Nat.succ_mul _ _
    rw [e]
    omega
/-! the law's minors -/
def lineN (wide i : Nat) (p : List Int) : List Int := List.replicate i 0 ++ p.reverse ++ List.replicate (wide - (i + p.length)) 0
def linesN (a b : List Int) (order : Nat) : List (List Int) :=
  (List.range (b.length - 1 - order)).map (fun i => lineN (a.length - 1 + (b.length - 1) - order) i a) ++ (List.range (a.length - 1 - order)).map (fun i => lineN (a.length - 1 + (b.length - 1) - order) i b)
def minorN (a b : List Int) (order p : Nat) : Int :=
  detN ((linesN a b order).map fun line => line.take (a.length - 1 + (b.length - 1) - 2 * order - 1) ++ [line.getD (a.length - 1 + (b.length - 1) - order - 1 - p) 0])
def minorsN (a b : List Int) (order : Nat) : List Int := trimN ((List.range (order + 1)).map (minorN a b order))
/-! the law's division -/
def leftN : Nat → List Int → List Int → List Int
  | 0, a, _ => a
  | n + 1, a, b => if b.length ≤ a.length then leftN n (trimN ((List.range a.length).map fun i => a.getD i 0 * b.getLastD 0 - (if a.length - b.length ≤ i then a.getLastD 0 * b.getD (i - (a.length - b.length)) 0 else 0))) b else a
end Mine
end

section
open PySem PySem.W PySem.Calls PySem.Spec PyProof.Rows
namespace Mine
/-! the content -/
theorem foldg_dvd : ∀ (p : List Int) (g : Int), p.foldl (fun (g : Int) x => (Int.gcd g x : Int)) g ∣ g ∧ ∀ x ∈ p, p.foldl (fun (g : Int) x => (Int.gcd g x : Int)) g ∣ x
  | [], g => ⟨Int.dvd_refl _, fun _ h => nomatch h⟩
  | y :: r, g => by
    obtain ⟨h1, h2⟩ := foldg_dvd r (Int.gcd g y : Int)
    refine ⟨Int.dvd_trans h1 (Int.gcd_dvd_left ..), fun x hx => ?_⟩
    rcases List.mem_cons.mp hx with rfl | hx
    · exact Int.dvd_trans h1 (Int.gcd_dvd_right ..)
    · exact h2 x hx
theorem foldg_nonneg : ∀ (p : List Int) (g : Int), 0 ≤ g → 0 ≤ p.foldl (fun (g : Int) x => (Int.gcd g x : Int)) g
  | [], _, h => h
  | _ :: r, _, _ => foldg_nonneg r _ (Int.natCast_nonneg _)
theorem foldg_great : ∀ (p : List Int) (g d : Int), d ∣ g → (∀ x ∈ p, d ∣ x) → d ∣ p.foldl (fun (g : Int) x => (Int.gcd g x : Int)) g
  | [], _, _, h, _ => h
  | y :: r, g, d, h, hp => foldg_great r _ d (Int.dvd_coe_gcd h (hp y (.head _))) fun x hx => hp x (.tail _ hx)
theorem contN_dvd {p : List Int} {x : Int} (h : x ∈ p) : contN p ∣ x := (foldg_dvd p 0).2 x h
theorem contN_nonneg (p : List Int) : 0 ≤ contN p := foldg_nonneg p 0 (Int.le_refl _)
theorem contN_great {p : List Int} {d : Int} (h : ∀ x ∈ p, d ∣ x) : d ∣ contN p := foldg_great p 0 d (Int.dvd_zero d) h
theorem last_mem {p : List Int} (h : p.getLastD 0 ≠ 0) : p.getLastD 0 ∈ p := by
  rcases List.eq_nil_or_concat p with rfl | ⟨r, k, rfl⟩
  · exact absurd rfl h
  · simp
theorem contN_ne {p : List Int} (h : p.getLastD 0 ≠ 0) : contN p ≠ 0 := by
  intro e
  have := contN_dvd (last_mem h)
  rw [e] at this
  exact h (Int.zero_dvd.mp this)
end Mine
end

section
open PySem PySem.W PySem.Calls PySem.Spec PyProof.Rows
namespace Mine
/-! values of a polynomial -/
def ev : List Int → Int → Int
  | [], _ => 0
  | x :: r, t => x + t * ev r t
theorem ev_nil (t : Int) : ev [] t = 0 := rfl
theorem ev_cons (x : Int) (r : List Int) (t : Int) : ev (x :: r) t = x + t * ev r t := rfl
theorem ev_append (t : Int) : ∀ p q : List Int, ev (p ++ q) t = ev p t + t ^ p.length * ev q t
  | [], q => by simp [ev]
  | x :: r, q => by
    rw [List.cons_append, ev_cons, ev_cons, ev_append t r q, List.length_cons]
    grind
theorem ev_zeros (t : Int) : ∀ k : Nat, ev (List.replicate k 0) t = 0
  | 0 => rfl
  | k + 1 => by rw [List.replicate_succ, ev_cons, ev_zeros t k]; simp
theorem ev_trim (t : Int) : ∀ p : List Int, ev (trimN p) t = ev p t
  | [] => rfl
  | x :: r => by
    have ih := ev_trim t r
    rw [ev_cons, ← ih]
    cases h : trimN r with
    | nil =>
      have e : trimN (x :: r) = if x = 0 then [] else [x] := by rw [trimN, h]
      rw [e]
      split
      · rename_i h; rw [h]; simp [ev]
      · simp [ev]
    | cons y s =>
      have e : trimN (x :: r) = x :: y :: s := by rw [trimN, h]
      rw [e]
      rfl
theorem ev_addR (t : Int) : ∀ p q : List Int, ev (addR p q) t = ev p t + ev q t
  | [], q => by simp [addR, ev]
  | x :: r, [] => by simp [addR, ev]
  | x :: r, y :: s => by
    rw [addR, ev_cons, ev_cons, ev_cons, ev_addR t r s]
    grind
theorem ev_map (k t : Int) : ∀ p : List Int, ev (p.map fun x => x * k) t = ev p t * k
  | [] => by simp [ev]
  | x :: r => by rw [List.map_cons, ev_cons, ev_cons, ev_map k t r]; grind
theorem ev_neg (t : Int) : ∀ p : List Int, ev (negN p) t = -ev p t
  | [] => by simp [ev, negN]
  | x :: r => by
    have ih := ev_neg t r
    unfold negN at ih ⊢
    rw [List.map_cons, ev_cons, ev_cons, ih]
    grind
theorem ev_add (t : Int) (p q : List Int) : ev (addN p q) t = ev p t + ev q t := by unfold addN; rw [ev_trim, ev_addR]
theorem ev_sub (t : Int) (p q : List Int) : ev (subN p q) t = ev p t - ev q t := by unfold subN; rw [ev_add, ev_neg]; omega
theorem ev_scale (t : Int) (p : List Int) (k : Int) : ev (scaleN p k) t = ev p t * k := by
  unfold scaleN
  split
  · exact ev_map k t p
  · rename_i h
    have : k = 0 := by omega
    rw [this]; simp [ev]
theorem ev_raise (t : Int) (p : List Int) (k : Nat) : ev (raiseN p k) t = t ^ k * ev p t := by
  unfold raiseN
  split
  · rename_i h; rw [h]; simp [ev]
  · rw [ev_append, ev_zeros, List.length_replicate]; simp
/-! products -/
def mulN : List Int → List Int → List Int
  | [], _ => []
  | x :: r, q => addR (q.map fun y => y * x) (0 :: mulN r q)
theorem ev_mul (t : Int) : ∀ p q : List Int, ev (mulN p q) t = ev p t * ev q t
  | [], q => by simp [mulN, ev]
  | x :: r, q => by
    rw [mulN, ev_addR, ev_map, ev_cons, ev_cons, ev_mul t r q]
    grind
/-! a polynomial is its values -/
theorem ev_zero : ∀ p : List Int, (∀ t, t ≠ 0 → ev p t = 0) → ∀ x ∈ p, x = 0
  | [], _, _, h => nomatch h
  | x :: r, h, y, hy => by
    have hx : x = 0 := by
      have h1 := h (x.natAbs + 1) (by omega)
      rw [ev_cons] at h1
      have h2 : ((x.natAbs : Int) + 1) ∣ x := ⟨-ev r (x.natAbs + 1), by grind⟩
      have h3 := Int.natAbs_dvd_natAbs.mpr h2
      by_cases h0 : x = 0
      · exact h0
      · have h4 := Nat.le_of_dvd (by omega) h3
        omega
    subst hx
    have h1 : ∀ t, t ≠ 0 → ev r t = 0 := by
      intro t ht
      have := h t ht
      rw [ev_cons, Int.zero_add] at this
      rcases Int.mul_eq_zero.mp this with h0 | h0
      · exact absurd h0 ht
      · exact h0
    rcases List.mem_cons.mp hy with rfl | hy
    · rfl
    · exact ev_zero r h1 y hy
theorem getD_zero {p : List Int} (h : ∀ x ∈ p, x = 0) (i : Nat) : p.getD i 0 = 0 := by
  rw [List.getD_eq_getElem?_getD]
  by_cases hi : i < p.length
  · rw [List.getElem?_eq_getElem hi]; exact h _ (List.getElem_mem hi)
  · rw [List.getElem?_eq_none (by omega)]; rfl
theorem ev_coef {p q : List Int} (h : ∀ t, t ≠ 0 → ev p t = ev q t) (i : Nat) : p.getD i 0 = q.getD i 0 := by
  have h1 := getD_zero (ev_zero (addR p (negN q)) fun t ht => by rw [ev_addR, ev_neg, h t ht]; omega) i
  rw [addR_get, negN_get] at h1
  omega
theorem lead_last {p : List Int} (h : Lead p) (h0 : p ≠ []) : p.getD (p.length - 1) 0 ≠ 0 := by
  rcases lead_cases h with rfl | ⟨r, k, rfl, hk⟩
  · exact absurd rfl h0
  · simpa using hk
theorem lead_len {p q : List Int} (hp : Lead p) (h : ∀ i, p.getD i 0 = q.getD i 0) : p.length ≤ q.length := by
  by_cases h0 : p = []
  · rw [h0]; exact Nat.zero_le _
  · have h1 := lead_last hp h0
    rw [h] at h1
    by_cases h2 : p.length - 1 < q.length
    · omega
    · exfalso
      apply h1
      rw [List.getD_eq_getElem?_getD, List.getElem?_eq_none (by omega)]
      rfl
theorem lead_ext {p q : List Int} (hp : Lead p) (hq : Lead q) (h : ∀ i, p.getD i 0 = q.getD i 0) : p = q := by
  have h1 := lead_len hp h
  have h2 := lead_len hq fun i => (h i).symm
  apply List.ext_getElem (by omega)
  intro i hi hj
  have := h i
  rw [List.getD_eq_getElem?_getD, List.getD_eq_getElem?_getD, List.getElem?_eq_getElem hi, List.getElem?_eq_getElem hj] at this
  exact this
theorem ev_inj {p q : List Int} (hp : Lead p) (hq : Lead q) (h : ∀ t, ev p t = ev q t) : p = q := lead_ext hp hq (ev_coef fun t _ => h t)
/-! a true polynomial -/
def Nz (p : List Int) : Prop := p.getLastD 0 ≠ 0
theorem Nz.ne {p : List Int} (h : Nz p) : p ≠ [] := by intro e; subst e; exact h rfl
theorem Nz.lead {p : List Int} (h : Nz p) : Lead p := by
  rcases List.eq_nil_or_concat p with rfl | ⟨r, k, rfl⟩
  · exact lead_nil
  · simpa [Nz, Lead] using h
theorem Lead.nz {p : List Int} (h : Lead p) (h0 : p ≠ []) : Nz p := by
  rcases lead_cases h with rfl | ⟨r, k, rfl, hk⟩
  · exact absurd rfl h0
  · simpa [Nz] using hk
theorem mulN_last : ∀ {p q : List Int}, Nz p → Nz q → (mulN p q).length = p.length + q.length - 1 ∧ (mulN p q).getD (p.length + q.length - 2) 0 = p.getLastD 0 * q.getLastD 0
  | [], _, h, _ => absurd rfl h
  | [x], q, h, hq => by
    have hx : x ≠ 0 := by simpa [Nz] using h
    have hl := List.length_pos_iff.mpr hq.ne
    have e1 : ∀ i, (mulN [x] q).getD i 0 = q.getD i 0 * x := by
      intro i
      rw [mulN, mulN, addR_get]
      have : ([0] : List Int).getD i 0 = 0 := by cases i <;> simp
      rw [this, Int.add_zero]
      have := scaleN_get q x i
      unfold scaleN at this
      rw [if_pos hx] at this
      exact this
    refine ⟨?_, ?_⟩
    · rw [mulN, mulN, addR_len]; simp; omega
    · rw [e1]
      have e2 : ([x] : List Int).length + q.length - 2 = q.length - 1 := by simp; omega
      rw [e2, ← getLastD_getD]
      simp [Int.mul_comm]
  | x :: y :: r, q, h, hq => by
    have hp : Nz (y :: r) := by simpa [Nz] using h
    have hl := List.length_pos_iff.mpr hq.ne
    obtain ⟨h1, h2⟩ := mulN_last hp hq
    refine ⟨?_, ?_⟩
    · rw [mulN, addR_len]; simp [h1]; omega
    · rw [mulN, addR_get]
      have e1 : (x :: y :: r).length + q.length - 2 = ((y :: r).length + q.length - 2) + 1 := by simp; omega
      rw [e1]
      have e2 : (q.map fun z => z * x).getD ((y :: r).length + q.length - 2 + 1) 0 = 0 := by
        rw [List.getD_eq_getElem?_getD, List.getElem?_eq_none (by simp; omega)]
        rfl
      rw [e2, Int.zero_add]
      have e3 : (0 :: mulN (y :: r) q).getD ((y :: r).length + q.length - 2 + 1) 0 = (mulN (y :: r) q).getD ((y :: r).length + q.length - 2) 0 := by simp
      rw [e3, h2]
      simp
theorem mulN_len {p q : List Int} (hp : Nz p) (hq : Nz q) : (mulN p q).length = p.length + q.length - 1 := (mulN_last hp hq).1
theorem mulN_nz {p q : List Int} (hp : Nz p) (hq : Nz q) : Nz (mulN p q) := by
  have h1 := mulN_len hp hq
  have h2 := (mulN_last hp hq).2
  have l1 := List.length_pos_iff.mpr hp.ne
  have l2 := List.length_pos_iff.mpr hq.ne
  unfold Nz
  rw [getLastD_getD, h1]
  have e : p.length + q.length - 1 - 1 = p.length + q.length - 2 := by omega
  rw [e, h2]
  exact Int.mul_ne_zero hp hq
end Mine
end

section
open PySem PySem.W PySem.Calls PySem.Spec PyProof.Rows
namespace Mine
/-! c divides x, up to a number -/
def D (c x : List Int) : Prop := ∃ k : Int, k ≠ 0 ∧ ∃ q : List Int, ∀ t, k * ev x t = ev c t * ev q t
theorem D.refl (c : List Int) : D c c := ⟨1, by decide, [1], fun t => by simp [ev]⟩
theorem D.nil (c : List Int) : D c [] := ⟨1, by decide, [], fun t => by simp [ev]⟩
/-- what is a combination of multiples is a multiple -/
theorem D.comb {c x y z u v : List Int} {k : Int} (hx : D c x) (hy : D c y) (hk : k ≠ 0) (h : ∀ t, k * ev z t = ev u t * ev x t + ev v t * ev y t) : D c z := by
  obtain ⟨k1, h1, q1, e1⟩ := hx
  obtain ⟨k2, h2, q2, e2⟩ := hy
  refine ⟨k * (k1 * k2), Int.mul_ne_zero hk (Int.mul_ne_zero h1 h2), addR ((mulN u q1).map fun x => x * k2) ((mulN v q2).map fun x => x * k1), fun t => ?_⟩
  rw [ev_addR, ev_map, ev_map, ev_mul, ev_mul]
  have a1 := e1 t
  have a2 := e2 t
  have a3 := h t
  grind
theorem D.trans {c x y : List Int} (h1 : D c x) (h2 : D x y) : D c y := by
  obtain ⟨k, hk, q, e⟩ := h2
  exact D.comb (u := q) (v := []) h1 (D.nil c) hk fun t => by rw [e t]; simp [ev, Int.mul_comm]
theorem D.of_eq {c x y : List Int} {k m : Int} (hk : k ≠ 0) (hx : D c x) (h : ∀ t, k * ev y t = m * ev x t) : D c y :=
  D.comb (u := [m]) (v := []) hx (D.nil c) hk fun t => by rw [h t]; simp [ev]
theorem D.nz_eq {c x : List Int} (hc : Nz c) (hx : Nz x) (h : D c x) : ∃ k : Int, k ≠ 0 ∧ ∃ q : List Int, Nz q ∧ x.map (fun y => y * k) = mulN c q := by
  obtain ⟨k, hk, q, e⟩ := h
  have lx : Nz (x.map fun y => y * k) := by
    rcases lead_cases hx.lead with e | ⟨r, z, rfl, hz⟩
    · exact absurd e hx.ne
    · rw [List.map_append]
      simpa [Nz] using Int.mul_ne_zero hz hk
  have e2 : ∀ t, ev c t * ev (trimN q) t = ev (x.map fun y => y * k) t := fun t => by rw [ev_trim, ← e t, ev_map, Int.mul_comm]
  have hq : trimN q ≠ [] := by
    intro h0
    rw [h0] at e2
    have h3 : ∀ t, t ≠ 0 → ev (x.map fun y => y * k) t = ev [] t := fun t _ => by rw [← e2 t]; simp [ev]
    have h4 := lead_len lx.lead (ev_coef h3)
    exact lx.ne (List.eq_nil_of_length_eq_zero (Nat.le_zero.mp h4))
  have nq : Nz (trimN q) := (trimN_lead q).nz hq
  refine ⟨k, hk, trimN q, nq, ?_⟩
  exact ev_inj lx.lead (mulN_nz hc nq).lead fun t => by rw [ev_mul, e2 t]
theorem D.len {c x : List Int} (hc : Nz c) (hx : Nz x) (h : D c x) : c.length ≤ x.length := by
  obtain ⟨k, _, q, hq, e⟩ := D.nz_eq hc hx h
  have := congrArg List.length e
  rw [mulN_len hc hq, List.length_map] at this
  have := List.length_pos_iff.mpr hq.ne
  omega
/-- what is short and a multiple is nothing -/
theorem D.short {c x : List Int} (hc : Nz c) (hx : Lead x) (h : D c x) (hl : x.length < c.length) : x = [] := by
  by_cases h0 : x = []
  · exact h0
  · have := D.len hc (hx.nz h0) h
    omega
theorem D.both {c x : List Int} (hc : Nz c) (hx : Nz x) (h1 : D c x) (h2 : D x c) : ∃ k m : Int, k ≠ 0 ∧ m ≠ 0 ∧ x.map (fun y => y * k) = c.map (fun y => y * m) := by
  have l1 := D.len hc hx h1
  have l2 := D.len hx hc h2
  obtain ⟨k, hk, q, hq, e⟩ := D.nz_eq hc hx h1
  have l3 := congrArg List.length e
  rw [mulN_len hc hq, List.length_map] at l3
  have hc1 := List.length_pos_iff.mpr hc.ne
  have l4 : q.length = 1 := by
    have := List.length_pos_iff.mpr hq.ne
    omega
  obtain ⟨m, rfl⟩ := List.length_eq_one_iff.mp l4
  have hm : m ≠ 0 := by simpa [Nz] using hq
  refine ⟨k, m, hk, hm, ?_⟩
  rw [e]
  have nm : Nz (c.map fun y => y * m) := by
    rcases lead_cases hc.lead with e | ⟨r, z, rfl, hz⟩
    · exact absurd e hc.ne
    · rw [List.map_append]
      simpa [Nz] using Int.mul_ne_zero hz hm
  exact ev_inj (mulN_nz hc hq).lead nm.lead fun t => by rw [ev_mul, ev_map]; simp [ev]
/-! the pseudo-remainder -/
theorem ev_pstep (b : List Int) (f : Int) (r : List Int) (t : Int) : ev (pstep b f r) t = f * ev r t - r.getLastD 0 * t ^ (r.length - b.length) * ev b t := by
  unfold pstep
  rw [ev_sub, ev_scale, ev_raise, ev_scale]
  grind
theorem pgo_ev {b : List Int} (hb : b ≠ []) (h0 : b.getLastD 0 ≠ 0) : ∀ (n : Nat) (r : List Int) (left : Nat), r.length ≤ n → r.length + 1 ≤ left + b.length →
    ∃ q : List Int, ∀ t, b.getLastD 0 ^ left * ev r t = ev q t * ev b t + ev (pgo b (b.getLastD 0) n r left) t
  | 0, r, left, hn, _ => ⟨[], fun t => by
      have : r = [] := List.eq_nil_of_length_eq_zero (by omega)
      subst this
      rw [pgo, ev_scale]; simp [ev]⟩
  | n + 1, r, left, hn, hl => by
    by_cases hr : b.length ≤ r.length
    · rw [pgo_go hr]
      have h1 := pstep_len hb rfl h0 hr
      obtain ⟨q, hq⟩ := pgo_ev hb h0 n (pstep b (b.getLastD 0) r) (left - 1) (by omega) (by omega)
      obtain ⟨l, rfl⟩ : ∃ l, left = l + 1 := ⟨left - 1, by omega⟩
      rw [Nat.add_sub_cancel] at hq ⊢
      refine ⟨addR q (raiseN (scaleN [r.getLastD 0] (b.getLastD 0 ^ l)) (r.length - b.length)), fun t => ?_⟩
      have h2 := hq t
      rw [ev_pstep] at h2
      rw [ev_addR, ev_raise, ev_scale]
      simp only [ev_cons, ev_nil]
      generalize ev (pgo b (b.getLastD 0) n (pstep b (b.getLastD 0) r) l) t = P at *
      generalize b.getLastD 0 = f at *
      generalize r.getLastD 0 = z at *
      rw [Int.pow_succ]
      generalize f ^ l = F at *
      generalize t ^ (r.length - b.length) = T at *
      grind
    · rw [pgo_stop hr]
      refine ⟨[], fun t => ?_⟩
      rw [ev_scale]
      simp [ev, Int.mul_comm]
theorem premN_ev {a b : List Int} (hb : Nz b) : ∃ q : List Int, ∀ t, b.getLastD 0 ^ (a.length + 1 - b.length) * ev a t = ev q t * ev b t + ev (premN a b) t :=
  pgo_ev hb.ne hb a.length a _ (Nat.le_refl _) (by omega)
theorem premN_lead (a b : List Int) (h : Lead a) : Lead (premN a b) := pgo_lead _ _ _ h
theorem pgo_short {b : List Int} (hb : b ≠ []) (h0 : b.getLastD 0 ≠ 0) : ∀ (n : Nat) (r : List Int) (left : Nat), r.length ≤ n → (pgo b (b.getLastD 0) n r left).length < b.length
  | 0, r, left, hn => by
    rw [pgo]
    have := scaleN_len r (b.getLastD 0 ^ left)
    have := List.length_pos_iff.mpr hb
    omega
  | n + 1, r, left, hn => by
    by_cases hr : b.length ≤ r.length
    · rw [pgo_go hr]
      have h1 := pstep_len hb rfl h0 hr
      exact pgo_short hb h0 n _ _ (by omega)
    · rw [pgo_stop hr]
      have := scaleN_len r (b.getLastD 0 ^ left)
      omega
theorem premN_short {a b : List Int} (hb : Nz b) : (premN a b).length < b.length := pgo_short hb.ne hb _ _ _ (Nat.le_refl _)
theorem D.prem {c a b : List Int} (hb : Nz b) (h : D c b) : D c (premN a b) ↔ D c a := by
  obtain ⟨q, e⟩ := premN_ev (a := a) hb
  constructor
  · intro h1
    exact D.comb (u := q) (v := [1]) h h1 (Int.pow_ne_zero hb) fun t => by rw [e t]; simp [ev]
  · intro h1
    exact D.comb (u := negN q) (v := [b.getLastD 0 ^ (a.length + 1 - b.length)]) (k := 1) h h1 (by decide) fun t => by
      have := e t
      rw [ev_neg]
      simp only [ev_cons, ev_nil]
      grind
theorem prem_nil_iff {a b : List Int} (ha : Lead a) (hb : Nz b) : premN a b = [] ↔ D b a := by
  constructor
  · intro h
    exact (D.prem hb (D.refl b)).mp (h ▸ D.nil b)
  · intro h
    exact D.short hb (premN_lead a b ha) ((D.prem hb (D.refl b)).mpr h) (premN_short hb)
end Mine
end

section
open PySem PySem.W PySem.Calls PySem.Spec PyProof.Rows
namespace Mine
/-! contents and primitive parts -/
theorem getLastD_map (p : List Int) (k : Int) : (p.map fun y => y * k).getLastD 0 = p.getLastD 0 * k := by
  rcases List.eq_nil_or_concat p with rfl | ⟨r, z, rfl⟩
  · simp
  · simp
theorem Nz.map {p : List Int} {k : Int} (h : Nz p) (hk : k ≠ 0) : Nz (p.map fun y => y * k) := by
  unfold Nz
  rw [getLastD_map]
  exact Int.mul_ne_zero h hk
theorem Nz.of_map {p : List Int} {k : Int} (h : Nz (p.map fun y => y * k)) : Nz p := by
  intro e
  apply h
  rw [getLastD_map, e, Int.zero_mul]
theorem contN_map (p : List Int) (k : Int) (hk : k ≠ 0) : contN (p.map fun y => y * k) = contN p * (k.natAbs : Int) := by
  have h1 : contN p * k ∣ contN (p.map fun y => y * k) := contN_great fun x hx => by
    obtain ⟨y, hy, rfl⟩ := List.mem_map.mp hx
    exact Int.mul_dvd_mul (contN_dvd hy) (Int.dvd_refl k)
  have h2 : contN (p.map fun y => y * k) ∣ contN p * k := by
    have h3 : k ∣ contN (p.map fun y => y * k) := contN_great fun x hx => by
      obtain ⟨y, hy, rfl⟩ := List.mem_map.mp hx
      exact Int.dvd_mul_left y k
    obtain ⟨h, e⟩ := h3
    rw [e, Int.mul_comm k h]
    refine Int.mul_dvd_mul ?_ (Int.dvd_refl k)
    refine contN_great fun y hy => ?_
    have h4 := contN_dvd (List.mem_map.mpr ⟨y, hy, rfl⟩ : y * k ∈ p.map fun y => y * k)
    rw [e, Int.mul_comm k h] at h4
    exact Int.dvd_of_mul_dvd_mul_right hk h4
  have h5 := Int.natAbs_dvd_natAbs.mpr h1
  have h6 := Int.natAbs_dvd_natAbs.mpr h2
  have h7 := Nat.dvd_antisymm h5 h6
  have h8 := contN_nonneg p
  have h9 := contN_nonneg (p.map fun y => y * k)
  rw [Int.natAbs_mul] at h7
  have e1 : ((contN (p.map fun y => y * k)).natAbs : Int) = contN (p.map fun y => y * k) := Int.natAbs_of_nonneg h9
  have e2 : ((contN p).natAbs : Int) = contN p := Int.natAbs_of_nonneg h8
  rw [← e1, ← h7, Int.natCast_mul, e2]
/-- the content, with the lead's sign -/
def signC (p : List Int) : Int := if 0 < p.getLastD 0 then contN p else -contN p
theorem primN_eq {p : List Int} (h : Nz p) : primN p = divN p (signC p) := by unfold primN signC; rw [if_neg h.ne]
theorem signC_ne {p : List Int} (h : Nz p) : signC p ≠ 0 := by
  have := contN_ne h
  unfold signC
  split <;> omega
theorem signC_abs (p : List Int) : ((signC p).natAbs : Int) = contN p := by
  have := contN_nonneg p
  unfold signC
  split <;> omega
theorem divN_map {p : List Int} {d : Int} (h : ∀ x ∈ p, d ∣ x) : (divN p d).map (fun y => y * d) = p := by
  unfold divN
  rw [List.map_map]
  conv => rhs; rw [← List.map_id p]
  apply List.map_congr_left
  intro x hx
  have := Int.fdiv_mul_cancel (h x hx)
  simpa using this
theorem signC_dvd {p : List Int} : ∀ x ∈ p, signC p ∣ x := by
  intro x hx
  have := contN_dvd hx
  unfold signC
  split
  · exact this
  · exact Int.neg_dvd.mpr this
theorem primN_map {p : List Int} (h : Nz p) : (primN p).map (fun y => y * signC p) = p := by
  rw [primN_eq h]
  exact divN_map signC_dvd
theorem primN_nz {p : List Int} (h : Nz p) : Nz (primN p) := by
  have := primN_map h
  exact Nz.of_map (k := signC p) (this.symm ▸ h)
theorem primN_pos {p : List Int} (h : Nz p) : 0 < (primN p).getLastD 0 := by
  have e := congrArg (fun q => q.getLastD 0) (primN_map h)
  simp only [getLastD_map] at e
  have h0 : p.getLastD 0 ≠ 0 := h
  have hc := contN_nonneg p
  have hc0 := contN_ne h
  unfold signC at e
  split at e
  · rename_i hp
    have h1 : 0 < (primN p).getLastD 0 * contN p := by omega
    exact Int.pos_of_mul_pos_left h1 (by omega)
  · rename_i hp
    have h1 : 0 < (primN p).getLastD 0 * contN p := by
      rw [Int.mul_neg] at e
      omega
    exact Int.pos_of_mul_pos_left h1 (by omega)
theorem primN_cont {p : List Int} (h : Nz p) : contN (primN p) = 1 := by
  have e := congrArg contN (primN_map h)
  rw [contN_map _ _ (signC_ne h), signC_abs] at e
  have h0 := contN_ne h
  have h1 : contN (primN p) * contN p = 1 * contN p := by rw [e, Int.one_mul]
  exact Int.eq_of_mul_eq_mul_right h0 h1
/-- the one primitive polynomial of a line -/
theorem prim_uniq {p q : List Int} {k m : Int} (hk : k ≠ 0) (hm : m ≠ 0) (cp : contN p = 1) (cq : contN q = 1) (lp : 0 < p.getLastD 0) (lq : 0 < q.getLastD 0) (e : p.map (fun y => y * k) = q.map (fun y => y * m)) : p = q := by
  have e1 := congrArg contN e
  rw [contN_map _ _ hk, contN_map _ _ hm, cp, cq, Int.one_mul, Int.one_mul] at e1
  have e2 := congrArg (fun q => q.getLastD 0) e
  simp only [getLastD_map] at e2
  have hkm : k = m := by
    have e3 : k.natAbs = m.natAbs := by omega
    rcases Int.natAbs_eq_natAbs_iff.mp e3 with h | h
    · exact h
    · exfalso
      rw [h] at e2
      have : (p.getLastD 0 + q.getLastD 0) * m = 0 := by grind
      rcases Int.mul_eq_zero.mp this with h1 | h1
      · omega
      · exact hm h1
  subst hkm
  have inj : Function.Injective fun y : Int => y * k := fun x y h => Int.eq_of_mul_eq_mul_right hk h
  exact List.map_inj_right (fun x y h => inj h) |>.mp e
theorem prim_same {p q : List Int} {k m : Int} (hp : Nz p) (hq : Nz q) (hk : k ≠ 0) (hm : m ≠ 0) (e : p.map (fun y => y * k) = q.map (fun y => y * m)) : primN p = primN q := by
  refine prim_uniq (k := signC p * k) (m := signC q * m) (Int.mul_ne_zero (signC_ne hp) hk) (Int.mul_ne_zero (signC_ne hq) hm) (primN_cont hp) (primN_cont hq) (primN_pos hp) (primN_pos hq) ?_
  have e1 : ∀ (r : List Int) (a b : Int), r.map (fun y => y * (a * b)) = (r.map fun y => y * a).map fun y => y * b := fun r a b => by
    rw [List.map_map]
    apply List.map_congr_left
    intro x _
    simp [Int.mul_assoc]
  rw [e1, e1, primN_map hp, primN_map hq]
  exact e
theorem D.map_iff {c p : List Int} {k : Int} (hk : k ≠ 0) : D c (p.map fun y => y * k) ↔ D c p :=
  ⟨fun h => D.of_eq (k := k) (m := 1) hk h fun t => by rw [ev_map]; grind, fun h => D.of_eq (k := 1) (m := k) (by decide) h fun t => by rw [ev_map]; grind⟩
theorem D.prim_iff {c p : List Int} (h : Nz p) : D c (primN p) ↔ D c p := by
  conv => rhs; rw [← primN_map h]
  exact (D.map_iff (signC_ne h)).symm
/-- the greatest common divisor -/
def IsG (g a b : List Int) : Prop := Nz g ∧ 0 < g.getLastD 0 ∧ contN g = (Int.gcd (contN a) (contN b) : Int) ∧ ∀ c, Nz c → (D c g ↔ D c a ∧ D c b)
theorem IsG.left {g a b : List Int} (h : IsG g a b) : D g a := ((h.2.2.2 g h.1).mp (D.refl g)).1
theorem IsG.right {g a b : List Int} (h : IsG g a b) : D g b := ((h.2.2.2 g h.1).mp (D.refl g)).2
theorem pos_prim {g : List Int} (h : Nz g) (hp : 0 < g.getLastD 0) : (primN g).map (fun y => y * contN g) = g := by
  have := primN_map h
  unfold signC at this
  rw [if_pos hp] at this
  exact this
theorem IsG.uniq {g g' a b a' b' : List Int} (h : IsG g a b) (h' : IsG g' a' b') (hc : Int.gcd (contN a) (contN b) = Int.gcd (contN a') (contN b')) (hD : ∀ c, Nz c → (D c a ∧ D c b ↔ D c a' ∧ D c b')) : g = g' := by
  have h1 : D g g' := (h'.2.2.2 g h.1).mpr ((hD g h.1).mp ⟨h.left, h.right⟩)
  have h2 : D g' g := (h.2.2.2 g' h'.1).mpr ((hD g' h'.1).mpr ⟨h'.left, h'.right⟩)
  obtain ⟨k, m, hk, hm, e⟩ := D.both h.1 h'.1 h1 h2
  have e1 := prim_same h'.1 h.1 hk hm e
  have e2 : contN g = contN g' := by rw [h.2.2.1, h'.2.2.1, hc]
  rw [← pos_prim h.1 h.2.1, ← pos_prim h'.1 h'.2.1, e1, e2]
end Mine
end

section
open PySem PySem.W PySem.Calls PySem.Spec PyProof.Rows
namespace Mine
/-! the pseudo-remainder, term by term -/
def fst1 (b : List Int) (r : List Int) : List Int := (List.range (r.length - 1)).map fun i => r.getD i 0 * b.getLastD 0 - (if i < r.length - b.length then 0 else b.getD (i - (r.length - b.length)) 0 * r.getLastD 0)
def fgo (b : List Int) : Nat → List Int → List Int
  | 0, r => r
  | k + 1, r => fgo b k (fst1 b r)
theorem getD_map_range (n : Nat) (f : Nat → Int) (i : Nat) : ((List.range n).map f).getD i 0 = if i < n then f i else 0 := by
  rw [List.getD_eq_getElem?_getD]
  by_cases h : i < n
  · rw [if_pos h, List.getElem?_map, List.getElem?_range h]; rfl
  · rw [if_neg h, List.getElem?_eq_none (by simp; omega)]; rfl
theorem fst1_len (b r : List Int) : (fst1 b r).length = r.length - 1 := by simp [fst1]
theorem fgo_len (b : List Int) : ∀ (k : Nat) (r : List Int), (fgo b k r).length = r.length - k
  | 0, r => rfl
  | k + 1, r => by rw [fgo, fgo_len b k, fst1_len]; omega
theorem trim_get (p : List Int) (i : Nat) : (trimN p).getD i 0 = p.getD i 0 := ev_coef (fun t _ => ev_trim t p) i
theorem trim_ext {p q : List Int} (h : ∀ i, p.getD i 0 = q.getD i 0) : trimN p = trimN q :=
  lead_ext (trimN_lead p) (trimN_lead q) fun i => by rw [trim_get, trim_get, h i]
theorem fst1_get {b r : List Int} (hb : b ≠ []) (hl : b.length ≤ r.length) (i : Nat) : (fst1 b r).getD i 0 = r.getD i 0 * b.getLastD 0 - (if i < r.length - b.length then 0 else b.getD (i - (r.length - b.length)) 0 * r.getLastD 0) := by
  have hb1 := List.length_pos_iff.mpr hb
  unfold fst1
  rw [getD_map_range]
  split
  · rfl
  · rename_i h
    by_cases h2 : i = r.length - 1
    · rw [if_neg (by omega)]
      have e : i - (r.length - b.length) = b.length - 1 := by omega
      rw [e, ← getLastD_getD, h2, ← getLastD_getD, Int.mul_comm]
      omega
    · have h3 : r.getD i 0 = 0 := by rw [List.getD_eq_getElem?_getD, List.getElem?_eq_none (by omega)]; rfl
      have h4 : b.getD (i - (r.length - b.length)) 0 = 0 := by rw [List.getD_eq_getElem?_getD, List.getElem?_eq_none (by omega)]; rfl
      rw [h3, h4]
      simp
theorem pstep_get (b : List Int) (f : Int) (r : List Int) (i : Nat) : (pstep b f r).getD i 0 = r.getD i 0 * f - (if i < r.length - b.length then 0 else b.getD (i - (r.length - b.length)) 0 * r.getLastD 0) := by
  unfold pstep subN addN
  rw [trim_get, addR_get, negN_get, raiseN_get, scaleN_get]
  split
  · omega
  · rw [scaleN_get]
    omega
theorem pstep_trim {b r : List Int} (hb : b ≠ []) (hl : b.length ≤ r.length) : pstep b (b.getLastD 0) r = trimN (fst1 b r) := by
  have h1 := trimN_of_lead (pstep_lead b (b.getLastD 0) r)
  rw [← h1]
  exact trim_ext fun i => by rw [pstep_get, fst1_get hb hl]
theorem scaleN_get' (p : List Int) (k : Int) (i : Nat) : (p.map fun x => x * k).getD i 0 = p.getD i 0 * k := by
  by_cases h : i < p.length
  · simp [List.getD_eq_getElem?_getD, h]
  · have : p.length ≤ i := by omega
    simp [List.getD_eq_getElem?_getD, this]
theorem getLastD_map' (p : List Int) (k : Int) : (p.map fun x => x * k).getLastD 0 = p.getLastD 0 * k := getLastD_map p k
theorem fst1_map (b r : List Int) (k : Int) : fst1 b (r.map fun x => x * k) = (fst1 b r).map fun x => x * k := by
  unfold fst1
  rw [List.length_map, List.map_map]
  apply List.map_congr_left
  intro i _
  simp only [Function.comp]
  rw [scaleN_get', getLastD_map']
  split <;> grind
theorem fgo_map (b : List Int) (k : Int) : ∀ (n : Nat) (r : List Int), fgo b n (r.map fun x => x * k) = (fgo b n r).map fun x => x * k
  | 0, r => rfl
  | n + 1, r => by rw [fgo, fgo, fst1_map, fgo_map b k n]
theorem trimN_map (p : List Int) {k : Int} (hk : k ≠ 0) : trimN (p.map fun x => x * k) = scaleN (trimN p) k := by
  have h1 : Lead (scaleN (trimN p) k) := scaleN_lead (trimN_lead p)
  rw [← trimN_of_lead h1]
  exact trim_ext fun i => by rw [scaleN_get', scaleN_get, trim_get]
theorem pgo_left {b : List Int} (hb : b ≠ []) (h0 : b.getLastD 0 ≠ 0) : ∀ (n : Nat) (r : List Int) (left : Nat), r.length ≤ n → r.length + 1 ≤ left + b.length → pgo b (b.getLastD 0) n r (left + 1) = scaleN (pgo b (b.getLastD 0) n r left) (b.getLastD 0)
  | 0, r, left, hn, _ => by
    have : r = [] := List.eq_nil_of_length_eq_zero (by omega)
    subst this
    simp [pgo, scaleN]
  | n + 1, r, left, hn, hl => by
    by_cases hr : b.length ≤ r.length
    · rw [pgo_go hr, pgo_go hr]
      have h1 := pstep_len hb rfl h0 hr
      obtain ⟨l, rfl⟩ : ∃ l, left = l + 1 := ⟨left - 1, by omega⟩
      rw [Nat.add_sub_cancel, Nat.add_sub_cancel]
      exact pgo_left hb h0 n _ l (by omega) (by omega)
    · rw [pgo_stop hr, pgo_stop hr]
      have h2 : b.getLastD 0 ^ left ≠ 0 := Int.pow_ne_zero h0
      have h3 : b.getLastD 0 ^ (left + 1) ≠ 0 := Int.pow_ne_zero h0
      unfold scaleN
      rw [if_pos h3, if_pos h2, if_pos h0, List.map_map]
      apply List.map_congr_left
      intro x _
      simp only [Function.comp]
      rw [Int.pow_succ]
      grind
theorem pgo_form {b : List Int} (hb : b ≠ []) (h0 : b.getLastD 0 ≠ 0) : ∀ (k : Nat) (r : List Int) (n : Nat), r.length + 1 = k + b.length ∨ (k = 0 ∧ r.length < b.length) → (trimN r).length ≤ n → pgo b (b.getLastD 0) n (trimN r) k = trimN (fgo b k r)
  | 0, r, n, hk, _ => by
    have hl := trimN_len r
    rw [pgo_stop (by omega), fgo]
    unfold scaleN
    simp
  | k + 1, r, n, hk, hn => by
    have hk' : r.length + 1 = k + 1 + b.length := by omega
    have hb1 := List.length_pos_iff.mpr hb
    have hr0 : r ≠ [] := by intro e; rw [e] at hk'; simp at hk'; omega
    rw [fgo]
    by_cases hz : r.getLastD 0 = 0
    · obtain ⟨d, rfl⟩ : ∃ d, r = d ++ [0] := by
        rcases List.eq_nil_or_concat r with e | ⟨d, z, e⟩
        · exact absurd e hr0
        · rw [List.concat_eq_append] at e
          subst e
          have : z = 0 := by simpa using hz
          rw [this]
          exact ⟨d, rfl⟩
      have e1 : fst1 b (d ++ [0]) = d.map fun x => x * b.getLastD 0 := by
        unfold fst1
        simp only [List.length_append, List.length_singleton, Nat.add_sub_cancel]
        apply List.ext_getElem (by simp)
        intro i h1 h2
        simp at h1
        have e3 : (d ++ [0]).getD i 0 = d[i] := by
          rw [List.getD_eq_getElem?_getD, List.getElem?_append_left h1, List.getElem?_eq_getElem h1]; rfl
        have e4 : (d ++ [(0 : Int)]).getLastD 0 = 0 := by simp
        simp only [List.getElem_map, List.getElem_range, e3, e4, Int.mul_zero]
        split <;> omega
      rw [e1, fgo_map, trimN_map _ h0, trimN_snoc0] at *
      simp at hk'
      have hl := trimN_len d
      rw [pgo_left hb h0 n (trimN d) k hn (by omega)]
      rw [pgo_form hb h0 k d n (by omega) hn]
    · have hL : Lead r := Nz.lead (p := r) hz
      rw [trimN_of_lead hL] at hn ⊢
      have hr : b.length ≤ r.length := by omega
      obtain ⟨n', rfl⟩ : ∃ n', n = n' + 1 := ⟨n - 1, by have := List.length_pos_iff.mpr hr0; omega⟩
      rw [pgo_go hr, Nat.add_sub_cancel, pstep_trim hb hr]
      have h1 := pstep_len hb rfl h0 hr
      rw [pstep_trim hb hr] at h1
      exact pgo_form hb h0 k (fst1 b r) n' (by rw [fst1_len]; omega) (by omega)
theorem premN_form {a b : List Int} (ha : Lead a) (hb : Nz b) (hl : b.length ≤ a.length) : premN a b = trimN (fgo b (a.length + 1 - b.length) a) := by
  have := pgo_form hb.ne hb (a.length + 1 - b.length) a a.length (.inl (by have := List.length_pos_iff.mpr hb.ne; omega)) (trimN_len a)
  rw [trimN_of_lead ha] at this
  exact this
end Mine
end

section
open PySem PySem.W PySem.Calls PySem.Spec PyProof.Rows
namespace Mine
set_option maxRecDepth 100000
theorem detSum_nil (d : List (List Int) → Int) (rest : List (List Int)) (i : Nat) (w : Int) : detSum d rest [] i w = w := rfl
theorem detSum_cons (d : List (List Int) → Int) (rest : List (List Int)) (x : Int) (r : List Int) (i : Nat) (w : Int) : detSum d rest (x :: r) i w = detSum d rest r (i + 1) (w + (1 - 2 * ((i : Int).fmod 2)) * x * d (rest.map (lessR i))) := by
  conv => lhs; unfold detSum
  split
  · rfl
  · rename_i h
    have : x = 0 := by omega
    rw [this]; simp
/-! identities of polynomials by computing with their terms: the determinants and the steps of the division are done once on terms -/
abbrev PE := Lean.Grind.CommRing.Expr
abbrev PC := Lean.RArray Int
noncomputable abbrev den (c : PC) (e : PE) : Int := e.denote c
def lessE (i : Nat) (r : List PE) : List PE := r.take i ++ r.drop (i + 1)
def sumE (d : List (List PE) → PE) (rest : List (List PE)) : List PE → Nat → PE → PE
  | [], _, w => w
  | .num 0 :: r, i, w => sumE d rest r (i + 1) w
  | x :: r, i, w => sumE d rest r (i + 1) (if i % 2 = 0 then .add w (.mul x (d (rest.map (lessE i)))) else .sub w (.mul x (d (rest.map (lessE i)))))
def detE : Nat → List (List PE) → PE
  | 0, _ => .num 1
  | _ + 1, [] => .num 1
  | n + 1, r :: rest => sumE (detE n) rest r 0 (.num 0)
theorem den_num (c : PC) (k : Int) : den c (.num k) = k := by
  show Lean.Grind.CommRing.denoteInt k = k
  rw [Lean.Grind.CommRing.denoteInt_eq]
  rfl
theorem den_sub (c : PC) (a b : PE) : den c (.sub a b) = den c a - den c b := rfl
theorem den_mul (c : PC) (a b : PE) : den c (.mul a b) = den c a * den c b := rfl
theorem less_den (c : PC) (i : Nat) (rest : List (List PE)) : (rest.map fun q => q.map (den c)).map (lessR i) = (rest.map (lessE i)).map fun q => q.map (den c) := by
  rw [List.map_map, List.map_map]
  refine List.map_congr_left fun q _ => ?_
  show lessR i (q.map (den c)) = (lessE i q).map (den c)
  unfold lessR lessE
  rw [List.map_append, List.map_take, List.map_drop]
theorem sign_at (i : Nat) : (1 - 2 * ((i : Int).fmod 2)) = if i % 2 = 0 then 1 else -1 := by
  rw [Int.fmod_eq_emod_of_nonneg _ (by decide)]
  split <;> omega
theorem sumE_ok (c : PC) (n : Nat) (ih : ∀ rows : List (List PE), den c (detE n rows) = detF n (rows.map fun q => q.map (den c))) (rest : List (List PE)) :
    ∀ (r : List PE) (i : Nat) (w : PE), den c (sumE (detE n) rest r i w) = detSum (detF n) (rest.map fun q => q.map (den c)) (r.map (den c)) i (den c w)
  | [], _, _ => rfl
  | x :: r, i, w => by
    have key : den c (sumE (detE n) rest r (i + 1) (if i % 2 = 0 then .add w (.mul x (detE n (rest.map (lessE i)))) else .sub w (.mul x (detE n (rest.map (lessE i)))))) = detSum (detF n) (rest.map fun q => q.map (den c)) ((x :: r).map (den c)) i (den c w) := by
      rw [sumE_ok c n ih rest r (i + 1), List.map_cons, detSum_cons, less_den, ← ih, sign_at]
      split
      · rw [Int.one_mul]; rfl
      · rw [Int.mul_assoc, Int.neg_one_mul, ← Int.sub_eq_add_neg]; rfl
    unfold sumE
    split
    · rename_i e; cases e
    · rename_i e
      cases e
      rw [sumE_ok c n ih rest _ (_ + 1), List.map_cons, detSum_cons, den_num, Int.mul_zero, Int.zero_mul, Int.add_zero]
    · rename_i e
      cases e
      exact key
theorem detE_ok (c : PC) : ∀ (n : Nat) (rows : List (List PE)), den c (detE n rows) = detF n (rows.map fun q => q.map (den c))
  | 0, _ => rfl
  | _ + 1, [] => rfl
  | n + 1, r :: rest => by
    show den c (sumE (detE n) rest r 0 (.num 0)) = detSum (detF n) (rest.map fun q => q.map (den c)) (r.map (den c)) 0 0
    rw [sumE_ok c n (detE_ok c n) rest r 0 (.num 0), den_num]
/-- two terms with one normal form -/
theorem terms_eq (c : PC) (a b : PE) (h : (a.toPoly == b.toPoly) = true) : den c a = den c b := by
  have h := eq_of_beq h
  unfold den
  rw [← Lean.Grind.CommRing.Expr.denote_toPoly c a, ← Lean.Grind.CommRing.Expr.denote_toPoly c b, h]
/-! the step of the division -/
def fstE (b r : List PE) : List PE := (List.range (r.length - 1)).map fun i => .sub (.mul (r.getD i (.num 0)) (b.getLastD (.num 0))) (if i < r.length - b.length then .num 0 else .mul (b.getD (i - (r.length - b.length)) (.num 0)) (r.getLastD (.num 0)))
def fgoE (b : List PE) : Nat → List PE → List PE
  | 0, r => r
  | k + 1, r => fgoE b k (fstE b r)
theorem getD_den (c : PC) (r : List PE) (i : Nat) : den c (r.getD i (.num 0)) = (r.map (den c)).getD i 0 := by
  rw [List.getD_eq_getElem?_getD, List.getD_eq_getElem?_getD, List.getElem?_map]
  cases r[i]? with
  | none => exact den_num c 0
  | some x => rfl
theorem last_den (c : PC) (r : List PE) : den c (r.getLastD (.num 0)) = (r.map (den c)).getLastD 0 := by
  rw [List.getLastD_eq_getLast?, List.getLastD_eq_getLast?, List.getLast?_map]
  cases r.getLast? with
  | none => exact den_num c 0
  | some x => rfl
theorem fstE_ok (c : PC) (b r : List PE) : (fstE b r).map (den c) = fst1 (b.map (den c)) (r.map (den c)) := by
  unfold fstE fst1
  rw [List.map_map, List.length_map, List.length_map]
  refine List.map_congr_left fun i _ => ?_
  rw [← getD_den, ← last_den, ← last_den, ← getD_den]
  rw [Function.comp_apply, den_sub, den_mul]
  congr 1
  split
  · exact den_num c 0
  · rfl
theorem fgoE_ok (c : PC) (b : List PE) : ∀ (k : Nat) (r : List PE), (fgoE b k r).map (den c) = fgo (b.map (den c)) k (r.map (den c))
  | 0, _ => rfl
  | k + 1, r => by
    show (fgoE b k (fstE b r)).map (den c) = fgo _ k (fst1 _ _)
    rw [fgoE_ok c b k, fstE_ok]
theorem lists_eq (c : PC) : ∀ (a b : List PE), (a.map (·.toPoly) == b.map (·.toPoly)) = true → a.map (den c) = b.map (den c)
  | [], [], _ => rfl
  | [], _ :: _, h => nomatch h
  | _ :: _, [], h => nomatch h
  | x :: a, y :: b, h => by
    have h1 : (x.toPoly == y.toPoly && (a.map (·.toPoly) == b.map (·.toPoly))) = true := h
    have h1 := Bool.and_eq_true_iff.mp h1
    rw [List.map_cons, List.map_cons, terms_eq c x y h1.1, lists_eq c a b h1.2]
end Mine
end

section
open PySem PySem.W PySem.Calls PySem.Spec PyProof.Rows
namespace Mine
set_option maxRecDepth 100000
theorem minor22 (a0 a1 b0 b1 : Int) : minorN [a0, a1] [b0, b1] 0 0 = -(a0 * b1 - b0 * a1) :=
  (detE_ok (.branch 2 (.branch 1 (.leaf a0) (.leaf a1)) (.branch 3 (.leaf b0) (.leaf b1))) 2 [[.var 1, .var 0], [.var 3, .var 2]]).symm.trans (terms_eq (.branch 2 (.branch 1 (.leaf a0) (.leaf a1)) (.branch 3 (.leaf b0) (.leaf b1))) (detE 2 [[.var 1, .var 0], [.var 3, .var 2]]) (.neg (.sub (.mul (.var 0) (.var 3)) (.mul (.var 2) (.var 1)))) (by decide +kernel))
theorem minor32 (a0 a1 a2 b0 b1 : Int) : minorN [a0, a1, a2] [b0, b1] 0 0 = ((a0 * b1) * b1 - b0 * (a1 * b1 - b0 * a2)) :=
  (detE_ok (.branch 2 (.branch 1 (.leaf a0) (.leaf a1)) (.branch 3 (.leaf a2) (.branch 4 (.leaf b0) (.leaf b1)))) 3 [[.var 2, .var 1, .var 0], [.var 4, .var 3, .num 0], [.num 0, .var 4, .var 3]]).symm.trans (terms_eq (.branch 2 (.branch 1 (.leaf a0) (.leaf a1)) (.branch 3 (.leaf a2) (.branch 4 (.leaf b0) (.leaf b1)))) (detE 3 [[.var 2, .var 1, .var 0], [.var 4, .var 3, .num 0], [.num 0, .var 4, .var 3]]) (.sub (.mul (.mul (.var 0) (.var 4)) (.var 4)) (.mul (.var 3) (.sub (.mul (.var 1) (.var 4)) (.mul (.var 3) (.var 2))))) (by decide +kernel))
theorem minor42 (a0 a1 a2 a3 b0 b1 : Int) : minorN [a0, a1, a2, a3] [b0, b1] 0 0 = -(a0 * b1 * b1 * b1 - b0 * (a1 * b1 * b1 - b0 * (a2 * b1 - b0 * a3))) :=
  (detE_ok (.branch 3 (.branch 1 (.leaf a0) (.branch 2 (.leaf a1) (.leaf a2))) (.branch 4 (.leaf a3) (.branch 5 (.leaf b0) (.leaf b1)))) 4 [[.var 3, .var 2, .var 1, .var 0], [.var 5, .var 4, .num 0, .num 0], [.num 0, .var 5, .var 4, .num 0], [.num 0, .num 0, .var 5, .var 4]]).symm.trans (terms_eq (.branch 3 (.branch 1 (.leaf a0) (.branch 2 (.leaf a1) (.leaf a2))) (.branch 4 (.leaf a3) (.branch 5 (.leaf b0) (.leaf b1)))) (detE 4 [[.var 3, .var 2, .var 1, .var 0], [.var 5, .var 4, .num 0, .num 0], [.num 0, .var 5, .var 4, .num 0], [.num 0, .num 0, .var 5, .var 4]]) (.neg (.sub (.mul (.mul (.mul (.var 0) (.var 5)) (.var 5)) (.var 5)) (.mul (.var 4) (.sub (.mul (.mul (.var 1) (.var 5)) (.var 5)) (.mul (.var 4) (.sub (.mul (.var 2) (.var 5)) (.mul (.var 4) (.var 3)))))))) (by decide +kernel))
theorem minor33_0 (a0 a1 a2 b0 b1 b2 : Int) : minorN [a0, a1, a2] [b0, b1, b2] 0 0 = (a0 * b2 - b0 * a2) * (a0 * b2 - b0 * a2) - (a1 * b2 - b1 * a2) * (a0 * b1 - b0 * a1) :=
  (detE_ok (.branch 3 (.branch 1 (.leaf a0) (.branch 2 (.leaf a1) (.leaf a2))) (.branch 4 (.leaf b0) (.branch 5 (.leaf b1) (.leaf b2)))) 4 [[.var 2, .var 1, .var 0, .num 0], [.num 0, .var 2, .var 1, .var 0], [.var 5, .var 4, .var 3, .num 0], [.num 0, .var 5, .var 4, .var 3]]).symm.trans (terms_eq (.branch 3 (.branch 1 (.leaf a0) (.branch 2 (.leaf a1) (.leaf a2))) (.branch 4 (.leaf b0) (.branch 5 (.leaf b1) (.leaf b2)))) (detE 4 [[.var 2, .var 1, .var 0, .num 0], [.num 0, .var 2, .var 1, .var 0], [.var 5, .var 4, .var 3, .num 0], [.num 0, .var 5, .var 4, .var 3]]) (.sub (.mul (.sub (.mul (.var 0) (.var 5)) (.mul (.var 3) (.var 2))) (.sub (.mul (.var 0) (.var 5)) (.mul (.var 3) (.var 2)))) (.mul (.sub (.mul (.var 1) (.var 5)) (.mul (.var 4) (.var 2))) (.sub (.mul (.var 0) (.var 4)) (.mul (.var 3) (.var 1))))) (by decide +kernel))
theorem minor33_1 (a0 a1 a2 b0 b1 b2 : Int) : minorN [a0, a1, a2] [b0, b1, b2] 1 0 = -(a0 * b2 - b0 * a2) ∧ minorN [a0, a1, a2] [b0, b1, b2] 1 1 = -(a1 * b2 - b1 * a2) :=
  ⟨(detE_ok (.branch 3 (.branch 1 (.leaf a0) (.branch 2 (.leaf a1) (.leaf a2))) (.branch 4 (.leaf b0) (.branch 5 (.leaf b1) (.leaf b2)))) 2 [[.var 2, .var 0], [.var 5, .var 3]]).symm.trans (terms_eq (.branch 3 (.branch 1 (.leaf a0) (.branch 2 (.leaf a1) (.leaf a2))) (.branch 4 (.leaf b0) (.branch 5 (.leaf b1) (.leaf b2)))) (detE 2 [[.var 2, .var 0], [.var 5, .var 3]]) (.neg (.sub (.mul (.var 0) (.var 5)) (.mul (.var 3) (.var 2)))) (by decide +kernel)),
   (detE_ok (.branch 3 (.branch 1 (.leaf a0) (.branch 2 (.leaf a1) (.leaf a2))) (.branch 4 (.leaf b0) (.branch 5 (.leaf b1) (.leaf b2)))) 2 [[.var 2, .var 1], [.var 5, .var 4]]).symm.trans (terms_eq (.branch 3 (.branch 1 (.leaf a0) (.branch 2 (.leaf a1) (.leaf a2))) (.branch 4 (.leaf b0) (.branch 5 (.leaf b1) (.leaf b2)))) (detE 2 [[.var 2, .var 1], [.var 5, .var 4]]) (.neg (.sub (.mul (.var 1) (.var 5)) (.mul (.var 4) (.var 2)))) (by decide +kernel))⟩
theorem minor43_1 (a0 a1 a2 a3 b0 b1 b2 : Int) : minorN [a0, a1, a2, a3] [b0, b1, b2] 1 0 = (a0 * b2 * b2 - b0 * (a2 * b2 - b1 * a3)) ∧ minorN [a0, a1, a2, a3] [b0, b1, b2] 1 1 = ((a1 * b2 - b0 * a3) * b2 - b1 * (a2 * b2 - b1 * a3)) :=
  ⟨(detE_ok (.branch 3 (.branch 1 (.leaf a0) (.branch 2 (.leaf a1) (.leaf a2))) (.branch 5 (.branch 4 (.leaf a3) (.leaf b0)) (.branch 6 (.leaf b1) (.leaf b2)))) 3 [[.var 3, .var 2, .var 0], [.var 6, .var 5, .num 0], [.num 0, .var 6, .var 4]]).symm.trans (terms_eq (.branch 3 (.branch 1 (.leaf a0) (.branch 2 (.leaf a1) (.leaf a2))) (.branch 5 (.branch 4 (.leaf a3) (.leaf b0)) (.branch 6 (.leaf b1) (.leaf b2)))) (detE 3 [[.var 3, .var 2, .var 0], [.var 6, .var 5, .num 0], [.num 0, .var 6, .var 4]]) (.sub (.mul (.mul (.var 0) (.var 6)) (.var 6)) (.mul (.var 4) (.sub (.mul (.var 2) (.var 6)) (.mul (.var 5) (.var 3))))) (by decide +kernel)),
   (detE_ok (.branch 3 (.branch 1 (.leaf a0) (.branch 2 (.leaf a1) (.leaf a2))) (.branch 5 (.branch 4 (.leaf a3) (.leaf b0)) (.branch 6 (.leaf b1) (.leaf b2)))) 3 [[.var 3, .var 2, .var 1], [.var 6, .var 5, .var 4], [.num 0, .var 6, .var 5]]).symm.trans (terms_eq (.branch 3 (.branch 1 (.leaf a0) (.branch 2 (.leaf a1) (.leaf a2))) (.branch 5 (.branch 4 (.leaf a3) (.leaf b0)) (.branch 6 (.leaf b1) (.leaf b2)))) (detE 3 [[.var 3, .var 2, .var 1], [.var 6, .var 5, .var 4], [.num 0, .var 6, .var 5]]) (.sub (.mul (.sub (.mul (.var 1) (.var 6)) (.mul (.var 4) (.var 3))) (.var 6)) (.mul (.var 5) (.sub (.mul (.var 2) (.var 6)) (.mul (.var 5) (.var 3))))) (by decide +kernel))⟩
theorem minor44_2 (a0 a1 a2 a3 b0 b1 b2 b3 : Int) : minorN [a0, a1, a2, a3] [b0, b1, b2, b3] 2 0 = -(a0 * b3 - b0 * a3) ∧ minorN [a0, a1, a2, a3] [b0, b1, b2, b3] 2 1 = -(a1 * b3 - b1 * a3) ∧ minorN [a0, a1, a2, a3] [b0, b1, b2, b3] 2 2 = -(a2 * b3 - b2 * a3) :=
  ⟨(detE_ok (.branch 4 (.branch 2 (.branch 1 (.leaf a0) (.leaf a1)) (.branch 3 (.leaf a2) (.leaf a3))) (.branch 6 (.branch 5 (.leaf b0) (.leaf b1)) (.branch 7 (.leaf b2) (.leaf b3)))) 2 [[.var 3, .var 0], [.var 7, .var 4]]).symm.trans (terms_eq (.branch 4 (.branch 2 (.branch 1 (.leaf a0) (.leaf a1)) (.branch 3 (.leaf a2) (.leaf a3))) (.branch 6 (.branch 5 (.leaf b0) (.leaf b1)) (.branch 7 (.leaf b2) (.leaf b3)))) (detE 2 [[.var 3, .var 0], [.var 7, .var 4]]) (.neg (.sub (.mul (.var 0) (.var 7)) (.mul (.var 4) (.var 3)))) (by decide +kernel)),
   (detE_ok (.branch 4 (.branch 2 (.branch 1 (.leaf a0) (.leaf a1)) (.branch 3 (.leaf a2) (.leaf a3))) (.branch 6 (.branch 5 (.leaf b0) (.leaf b1)) (.branch 7 (.leaf b2) (.leaf b3)))) 2 [[.var 3, .var 1], [.var 7, .var 5]]).symm.trans (terms_eq (.branch 4 (.branch 2 (.branch 1 (.leaf a0) (.leaf a1)) (.branch 3 (.leaf a2) (.leaf a3))) (.branch 6 (.branch 5 (.leaf b0) (.leaf b1)) (.branch 7 (.leaf b2) (.leaf b3)))) (detE 2 [[.var 3, .var 1], [.var 7, .var 5]]) (.neg (.sub (.mul (.var 1) (.var 7)) (.mul (.var 5) (.var 3)))) (by decide +kernel)),
   (detE_ok (.branch 4 (.branch 2 (.branch 1 (.leaf a0) (.leaf a1)) (.branch 3 (.leaf a2) (.leaf a3))) (.branch 6 (.branch 5 (.leaf b0) (.leaf b1)) (.branch 7 (.leaf b2) (.leaf b3)))) 2 [[.var 3, .var 2], [.var 7, .var 6]]).symm.trans (terms_eq (.branch 4 (.branch 2 (.branch 1 (.leaf a0) (.leaf a1)) (.branch 3 (.leaf a2) (.leaf a3))) (.branch 6 (.branch 5 (.leaf b0) (.leaf b1)) (.branch 7 (.leaf b2) (.leaf b3)))) (detE 2 [[.var 3, .var 2], [.var 7, .var 6]]) (.neg (.sub (.mul (.var 2) (.var 7)) (.mul (.var 6) (.var 3)))) (by decide +kernel))⟩
def res23 (e0 e1 e2 b0 b1 b2 b3 : Int) : Int := b0*b0*e2*e2*e2 - b0*b1*e1*e2*e2 - 2*b0*b2*e0*e2*e2 + b0*b2*e1*e1*e2 + 3*b0*b3*e0*e1*e2 - b0*b3*e1*e1*e1 + b1*b1*e0*e2*e2 - b1*b2*e0*e1*e2 - 2*b1*b3*e0*e0*e2 + b1*b3*e0*e1*e1 + b2*b2*e0*e0*e2 - b2*b3*e0*e0*e1 + b3*b3*e0*e0*e0
def res23E (e0 e1 e2 b0 b1 b2 b3 : PE) : PE := (.add (.sub (.add (.add (.sub (.sub (.add (.sub (.add (.add (.sub (.sub (.mul (.mul (.mul (.mul b0 b0) e2) e2) e2) (.mul (.mul (.mul (.mul b0 b1) e1) e2) e2)) (.mul (.mul (.mul (.mul (.mul (.num 2) b0) b2) e0) e2) e2)) (.mul (.mul (.mul (.mul b0 b2) e1) e1) e2)) (.mul (.mul (.mul (.mul (.mul (.num 3) b0) b3) e0) e1) e2)) (.mul (.mul (.mul (.mul b0 b3) e1) e1) e1)) (.mul (.mul (.mul (.mul b1 b1) e0) e2) e2)) (.mul (.mul (.mul (.mul b1 b2) e0) e1) e2)) (.mul (.mul (.mul (.mul (.mul (.num 2) b1) b3) e0) e0) e2)) (.mul (.mul (.mul (.mul b1 b3) e0) e1) e1)) (.mul (.mul (.mul (.mul b2 b2) e0) e0) e2)) (.mul (.mul (.mul (.mul b2 b3) e0) e0) e1)) (.mul (.mul (.mul (.mul b3 b3) e0) e0) e0))
theorem minor44_0 (a0 a1 a2 a3 b0 b1 b2 b3 : Int) : b3 * b3 * minorN [a0, a1, a2, a3] [b0, b1, b2, b3] 0 0 = -res23 (a0 * b3 - b0 * a3) (a1 * b3 - b1 * a3) (a2 * b3 - b2 * a3) b0 b1 b2 b3 :=
  (congrArg (b3 * b3 * ·) (detE_ok (.branch 4 (.branch 2 (.branch 1 (.leaf a0) (.leaf a1)) (.branch 3 (.leaf a2) (.leaf a3))) (.branch 6 (.branch 5 (.leaf b0) (.leaf b1)) (.branch 7 (.leaf b2) (.leaf b3)))) 6 [[.var 3, .var 2, .var 1, .var 0, .num 0, .num 0], [.num 0, .var 3, .var 2, .var 1, .var 0, .num 0], [.num 0, .num 0, .var 3, .var 2, .var 1, .var 0], [.var 7, .var 6, .var 5, .var 4, .num 0, .num 0], [.num 0, .var 7, .var 6, .var 5, .var 4, .num 0], [.num 0, .num 0, .var 7, .var 6, .var 5, .var 4]])).symm.trans (terms_eq (.branch 4 (.branch 2 (.branch 1 (.leaf a0) (.leaf a1)) (.branch 3 (.leaf a2) (.leaf a3))) (.branch 6 (.branch 5 (.leaf b0) (.leaf b1)) (.branch 7 (.leaf b2) (.leaf b3)))) (.mul (.mul (.var 7) (.var 7)) (detE 6 [[.var 3, .var 2, .var 1, .var 0, .num 0, .num 0], [.num 0, .var 3, .var 2, .var 1, .var 0, .num 0], [.num 0, .num 0, .var 3, .var 2, .var 1, .var 0], [.var 7, .var 6, .var 5, .var 4, .num 0, .num 0], [.num 0, .var 7, .var 6, .var 5, .var 4, .num 0], [.num 0, .num 0, .var 7, .var 6, .var 5, .var 4]])) (.neg (res23E (.sub (.mul (.var 0) (.var 7)) (.mul (.var 4) (.var 3))) (.sub (.mul (.var 1) (.var 7)) (.mul (.var 5) (.var 3))) (.sub (.mul (.var 2) (.var 7)) (.mul (.var 6) (.var 3))) (.var 4) (.var 5) (.var 6) (.var 7))) (by decide +kernel))
end Mine
end

section
open PySem PySem.W PySem.Calls PySem.Spec PyProof.Rows
namespace Mine
/-! the row's divisions leave nothing over -/
def Exact : Nat → List Int → List Int → Int → Int → Prop
  | 0, _, _, _, _ => True
  | n + 1, a, b, f, h => 1 < b.length → premN a b ≠ [] → f * h ^ (a.length - b.length) ≠ 0 ∧ (∀ x ∈ premN a b, f * h ^ (a.length - b.length) ∣ x) ∧
      Exact n b (divN (premN a b) (f * h ^ (a.length - b.length))) (b.getLastD 0) (nextH (b.getLastD 0) (a.length - b.length) h)
theorem divN_nz {p : List Int} {d : Int} (hp : Nz p) (h : ∀ x ∈ p, d ∣ x) : Nz (divN p d) := Nz.of_map (k := d) ((divN_map h).symm ▸ hp)
theorem D.div_iff {c p : List Int} {d : Int} (hd : d ≠ 0) (h : ∀ x ∈ p, d ∣ x) : D c (divN p d) ↔ D c p := by
  conv => rhs; rw [← divN_map h]
  exact (D.map_iff hd).symm
theorem D.one {c b a : List Int} (hb : Nz b) (hl : b.length ≤ 1) (h : D c b) : D c a := by
  obtain ⟨x, rfl⟩ : ∃ x, b = [x] := List.length_eq_one_iff.mp (by have := List.length_pos_iff.mpr hb.ne; omega)
  have hx : x ≠ 0 := by simpa [Nz] using hb
  exact D.comb (u := a) (v := []) h (D.nil c) hx fun t => by simp [ev]; grind
/-- the last of the row: its divisors are the common ones -/
theorem subGo_last : ∀ (n : Nat) (a b : List Int) (row : List (List Int)) (f h : Int), Lead a → Nz b → b.length ≤ n → Exact n a b f h → row.getLastD [] = b →
    Nz ((subGo n a b row f h).getLastD []) ∧ ((subGo n a b row f h).getLastD []).length ≤ b.length ∧ ∀ c, Nz c → (D c ((subGo n a b row f h).getLastD []) ↔ D c a ∧ D c b)
  | 0, a, b, row, f, h, _, hb, hl, _, _ => absurd (List.length_pos_iff.mpr hb.ne) (by omega)
  | n + 1, a, b, row, f, h, ha, hb, hl, hx, hr => by
    by_cases h1 : 1 < b.length
    · by_cases h2 : premN a b = []
      · rw [subGo_end h2, hr]
        refine ⟨hb, Nat.le_refl _, fun c hc => ⟨fun hD => ⟨(D.prem hb hD).mp (h2 ▸ D.nil c), hD⟩, fun hD => hD.2⟩⟩
      · obtain ⟨x1, x2, x3⟩ := hx h1 h2
        have hp : Nz (premN a b) := (premN_lead a b ha).nz h2
        have hs := premN_short (a := a) hb
        rw [subGo_go h1 h2]
        obtain ⟨i1, i2, i3⟩ := subGo_last n b (divN (premN a b) (f * h ^ (a.length - b.length))) (row ++ [divN (premN a b) (f * h ^ (a.length - b.length))]) (b.getLastD 0) (nextH (b.getLastD 0) (a.length - b.length) h)
          hb.lead (divN_nz hp x2) (by rw [divN_len]; omega) x3 (by simp)
        refine ⟨i1, by rw [divN_len] at i2; omega, fun c hc => ?_⟩
        rw [i3 c hc, D.div_iff x1 x2]
        constructor
        · rintro ⟨y1, y2⟩
          exact ⟨(D.prem hb y1).mp y2, y1⟩
        · rintro ⟨y1, y2⟩
          exact ⟨y2, (D.prem hb y2).mpr y1⟩
    · rw [subGo_stop h1, hr]
      exact ⟨hb, Nat.le_refl _, fun c hc => ⟨fun hD => ⟨D.one hb (by omega) hD, hD⟩, fun hD => hD.2⟩⟩
def ExactO (a b : List Int) : Prop := Exact b.length a b 1 1
def ExactN (a b : List Int) : Prop := if a.length < b.length then ExactO b a else ExactO a b
theorem subresN_last {a b : List Int} (ha : Nz a) (hb : Nz b) (hx : ExactN a b) : Nz ((subresN a b).getLastD []) ∧ ((subresN a b).getLastD []).length ≤ a.length ∧ ((subresN a b).getLastD []).length ≤ b.length ∧ ∀ c, Nz c → (D c ((subresN a b).getLastD []) ↔ D c a ∧ D c b) := by
  unfold subresN
  unfold ExactN at hx
  split
  · rename_i h
    rw [if_pos h] at hx
    obtain ⟨i1, i2, i3⟩ := subGo_last a.length b a [b, a] 1 1 hb.lead ha (Nat.le_refl _) hx rfl
    exact ⟨i1, i2, Nat.le_trans i2 (Nat.le_of_lt h), fun c hc => (i3 c hc).trans And.comm⟩
  · rename_i h
    rw [if_neg h] at hx
    obtain ⟨i1, i2, i3⟩ := subGo_last b.length a b [a, b] 1 1 ha.lead hb (Nat.le_refl _) hx rfl
    exact ⟨i1, Nat.le_trans i2 (by omega), i2, i3⟩
/-! zgcd gives the greatest common divisor -/
theorem primN_pos_id {p : List Int} (h : Nz p) : signC (primN p) = 1 := by
  unfold signC
  rw [if_pos (primN_pos h), primN_cont h]
theorem gcd_ne {a b : List Int} (ha : Nz a) : (Int.gcd (contN a) (contN b) : Int) ≠ 0 := by
  intro h
  have h1 : Int.gcd (contN a) (contN b) = 0 := by omega
  exact contN_ne ha (Int.gcd_eq_zero_iff.mp h1).1
theorem scale_isG {L a b : List Int} {k : Int} (hL : Nz L) (hk : 0 < k) (hc : k = (Int.gcd (contN a) (contN b) : Int)) (hD : ∀ c, Nz c → (D c L ↔ D c a ∧ D c b)) : IsG (scaleN (primN L) k) a b := by
  have hk0 : k ≠ 0 := by omega
  have e : scaleN (primN L) k = (primN L).map fun y => y * k := by unfold scaleN; rw [if_pos hk0]
  rw [e]
  refine ⟨(primN_nz hL).map hk0, ?_, ?_, fun c hc => ?_⟩
  · rw [getLastD_map]
    exact Int.mul_pos (primN_pos hL) hk
  · rw [contN_map _ _ hk0, primN_cont hL, ← hc]
    omega
  · rw [D.map_iff hk0, D.prim_iff hL]
    exact hD c hc
theorem prim_one {L : List Int} (h : Nz L) (hl : L.length = 1) : primN L = [1] := by
  have h1 : (primN L).length = 1 := by rw [primN_len]; exact hl
  obtain ⟨x, e⟩ := List.length_eq_one_iff.mp h1
  have h2 := primN_cont h
  have h3 := primN_pos h
  rw [e] at h2 h3 ⊢
  simp [contN] at h2 h3
  have : x = 1 := by omega
  rw [this]
theorem zgcdN_isG {a b : List Int} (ha : Nz a) (hb : Nz b) (hx : ExactN (primN a) (primN b)) : IsG (zgcdN a b) a b := by
  obtain ⟨i1, _, _, i3⟩ := subresN_last (primN_nz ha) (primN_nz hb) hx
  have hk : (0 : Int) < (Int.gcd (contN a) (contN b) : Int) := by have := gcd_ne ha (b := b); omega
  have key : IsG (scaleN (primN (zlastN a b)) (Int.gcd (contN a) (contN b) : Int)) a b :=
    scale_isG i1 hk rfl fun c hc => by
      unfold zlastN
      rw [i3 c hc, D.prim_iff ha, D.prim_iff hb]
  unfold zgcdN
  rw [if_neg ha.ne, if_neg hb.ne]
  split
  · exact key
  · rename_i hl
    have i4 : Nz (zlastN a b) := i1
    have h0 := List.length_pos_iff.mpr i4.ne
    have h1 : (zlastN a b).length = 1 := by omega
    rw [prim_one i4 h1] at key
    have e : scaleN [1] (Int.gcd (contN a) (contN b) : Int) = [(Int.gcd (contN a) (contN b) : Int)] := by
      unfold scaleN
      rw [if_pos (by omega)]
      simp
    rw [e] at key
    exact key
theorem normN_isG {p : List Int} (hp : Nz p) : IsG (normN p) p [] ∧ IsG (normN p) [] p := by
  have hc := contN_nonneg p
  have hc0 := contN_ne hp
  have e0 : contN ([] : List Int) = 0 := rfl
  have n1 : ((Int.gcd (contN p) 0 : Nat) : Int) = contN p := by rw [Int.gcd_zero_right]; omega
  have n2 : ((Int.gcd 0 (contN p) : Nat) : Int) = contN p := by rw [Int.gcd_zero_left]; omega
  unfold normN
  exact ⟨scale_isG hp (by omega) (by rw [e0, n1]) fun c _ => ⟨fun h => ⟨h, D.nil c⟩, fun h => h.1⟩, scale_isG hp (by omega) (by rw [e0, n2]) fun c _ => ⟨fun h => ⟨D.nil c, h⟩, fun h => h.2⟩⟩
theorem zgcdN_nil_left (b : List Int) : zgcdN [] b = normN b := by unfold zgcdN; rw [if_pos rfl]
theorem zgcdN_nil_right (a : List Int) : zgcdN a [] = normN a := by
  unfold zgcdN
  split
  · rename_i h; rw [h]
  · rw [if_pos rfl]
end Mine
end

section
open PySem PySem.W PySem.Calls PySem.Spec PyProof.Rows
namespace Mine
/-- what the law asks of a row -/
structure RowOk (A B : List Int) (rows : List (List Int)) : Prop where
  two : ∃ r, rows = A :: B :: r
  dec : ∀ i, 2 ≤ i → i < rows.length → (rows.getD i []).length < (rows.getD (i - 1) []).length
  long : ∀ i, 2 ≤ i → i < rows.length → 2 ≤ (rows.getD (i - 1) []).length ∧ (rows.getD (i - 1) []).length ≤ B.length
  due : ∀ i, 2 ≤ i → i < rows.length → rows.getD i [] = minorsN A B ((rows.getD (i - 1) []).length - 2) ∨ rows.getD i [] = negN (minorsN A B ((rows.getD (i - 1) []).length - 2))
  last : 1 ≤ (rows.getLastD []).length ∧ (rows.getLastD []).length ≤ B.length ∧ ∀ o, o + 1 < (rows.getLastD []).length → minorsN A B o = []
/-- the same, link by link -/
def Chk (A B : List Int) : List Int → List (List Int) → Prop
  | _, [] => True
  | p, c :: r => (c.length < p.length ∧ 2 ≤ p.length ∧ p.length ≤ B.length ∧ (c = minorsN A B (p.length - 2) ∨ c = negN (minorsN A B (p.length - 2)))) ∧ Chk A B c r
theorem Chk.at {A B : List Int} : ∀ {p : List Int} {r : List (List Int)}, Chk A B p r → ∀ j, j < r.length → ((r.getD j []).length < ((p :: r).getD j []).length ∧ 2 ≤ ((p :: r).getD j []).length ∧ ((p :: r).getD j []).length ≤ B.length ∧
    (r.getD j [] = minorsN A B (((p :: r).getD j []).length - 2) ∨ r.getD j [] = negN (minorsN A B (((p :: r).getD j []).length - 2))))
  | _, [], _, j, h => absurd h (Nat.not_lt_zero _)
  | _, _ :: _, h, 0, _ => h.1
  | _, c :: r, h, j + 1, hj => by
    have := h.2.at j (by simpa using hj)
    simpa using this
theorem RowOk.of {A B : List Int} {r : List (List Int)} (h : Chk A B B r) (hl : 1 ≤ ((B :: r).getLastD []).length ∧ ((B :: r).getLastD []).length ≤ B.length ∧ ∀ o, o + 1 < ((B :: r).getLastD []).length → minorsN A B o = []) : RowOk A B (A :: B :: r) := by
  have key : ∀ i, 2 ≤ i → i < (A :: B :: r).length → ∃ j, i = j + 2 ∧ j < r.length := fun i h1 h2 => ⟨i - 2, by omega, by simp at h2; omega⟩
  refine ⟨⟨r, rfl⟩, ?_, ?_, ?_, by simpa using hl⟩
  · intro i h1 h2
    obtain ⟨j, rfl, hj⟩ := key i h1 h2
    have := (h.at j hj).1
    simpa using this
  · intro i h1 h2
    obtain ⟨j, rfl, hj⟩ := key i h1 h2
    have := h.at j hj
    exact ⟨by simpa using this.2.1, by simpa using this.2.2.1⟩
  · intro i h1 h2
    obtain ⟨j, rfl, hj⟩ := key i h1 h2
    have := (h.at j hj).2.2.2
    simpa using this
theorem trim1 (x : Int) : trimN [x] = if x = 0 then [] else [x] := by simp [trimN]
theorem trim1_0 : trimN [(0 : Int)] = [] := by simp [trimN]
theorem trim1_ne {x : Int} (h : x ≠ 0) : trimN [x] = [x] := by simp [trimN, h]
theorem trim2_ne {x y : Int} (h : y ≠ 0) : trimN [x, y] = [x, y] := trimN_snoc [x] h
theorem trim2_0 (x : Int) : trimN [x, 0] = trimN [x] := trimN_snoc0 [x]
theorem trim3_ne {x y z : Int} (h : z ≠ 0) : trimN [x, y, z] = [x, y, z] := trimN_snoc [x, y] h
theorem trim3_0 (x y : Int) : trimN [x, y, 0] = trimN [x, y] := trimN_snoc0 [x, y]
theorem minors0 (a b : List Int) : minorsN a b 0 = trimN [minorN a b 0 0] := rfl
theorem minors1 (a b : List Int) : minorsN a b 1 = trimN [minorN a b 1 0, minorN a b 1 1] := rfl
theorem minors2 (a b : List Int) : minorsN a b 2 = trimN [minorN a b 2 0, minorN a b 2 1, minorN a b 2 2] := rfl
theorem divN_one (p : List Int) : divN p 1 = p := by
  unfold divN
  conv => rhs; rw [← List.map_id p]
  apply List.map_congr_left
  intro x _
  simp [Int.fdiv_one]
theorem fdiv_mul {d x : Int} (hd : d ≠ 0) : (d * x).fdiv d = x := Int.mul_fdiv_cancel_left x hd
theorem one_step (k : Nat) : (1 : Int) * 1 ^ k = 1 := by
  rw [Int.one_mul]
  induction k with
  | zero => rfl
  | succ k ih => rw [Int.pow_succ, ih]; rfl
theorem exact_short {n : Nat} {a b : List Int} {f h : Int} (hb : b.length ≤ 1) : Exact n a b f h := by
  cases n with
  | zero => trivial
  | succ n => intro h1; omega
theorem exact_end {n : Nat} {a b : List Int} {f h : Int} (hp : premN a b = []) : Exact n a b f h := by
  cases n with
  | zero => trivial
  | succ n => intro _ h1; exact absurd hp h1
theorem subGo_short {n : Nat} {a b : List Int} {row : List (List Int)} {f h : Int} (hb : b.length ≤ 1) : subGo n a b row f h = row := subGo_stop (by omega)
/-! rows by degree -/
theorem row2 {a b : List Int} {e : Int} (lb : b.length = 2) (hp : premN a b = trimN [e]) (hm : minorN a b 0 0 = e ∨ minorN a b 0 0 = -e) : RowOk a b (subresO a b) ∧ ExactO a b := by
  unfold subresO ExactO
  rw [lb]
  by_cases he : e = 0
  · subst he
    rw [trim1_0] at hp
    have hm0 : minorN a b 0 0 = 0 := by omega
    rw [subGo_end hp]
    refine ⟨RowOk.of trivial ?_, exact_end hp⟩
    refine ⟨by simp [lb], by simp, fun o ho => ?_⟩
    have : o = 0 := by simp [lb] at ho; omega
    subst this
    rw [minors0, hm0, trim1_0]
  · rw [trim1_ne he] at hp
    have hp0 : premN a b ≠ [] := by rw [hp]; simp
    refine ⟨?_, ?_⟩
    · rw [subGo_go (by omega) hp0, hp, one_step, divN_one, subGo_short (by simp)]
      refine RowOk.of (r := [[e]]) ⟨⟨by simp [lb], by omega, by omega, ?_⟩, trivial⟩ ?_
      · rw [lb, minors0]
        rcases hm with h | h
        · left; rw [h, trim1_ne he]
        · right; rw [h, trim1_ne (by omega)]; simp [negN]
      · exact ⟨by simp, by simp [lb], fun o ho => by simp at ho⟩
    · intro _ _
      rw [hp, one_step, divN_one]
      exact ⟨by decide, fun x _ => Int.one_dvd x, exact_short (by simp)⟩
theorem row3 {a b : List Int} {e0 e1 g S0 s h1 d : Int} (lb : b.length = 3) (hs : s = 1 ∨ s = -1) (hp : premN a b = trimN [e0, e1]) (m10 : minorN a b 1 0 = s * e0) (m11 : minorN a b 1 1 = s * e1) (mS : minorN a b 0 0 = S0)
    (hh : nextH (b.getLastD 0) (a.length - 3) 1 = h1) (hd : b.getLastD 0 * h1 ^ 1 = d) (hd0 : d ≠ 0) (hg : e1 ≠ 0 → premN b [e0, e1] = trimN [g]) (hS : e1 ≠ 0 → g = d * S0) (hS0 : e0 = 0 → e1 = 0 → S0 = 0) : RowOk a b (subresO a b) ∧ ExactO a b := by
  unfold subresO ExactO
  rw [lb]
  by_cases h11 : e1 = 0
  · subst h11
    rw [trim2_0] at hp
    by_cases h10 : e0 = 0
    · subst h10
      rw [trim1_0] at hp
      have := hS0 rfl rfl
      subst this
      rw [subGo_end hp]
      refine ⟨RowOk.of trivial ?_, exact_end hp⟩
      refine ⟨by simp [lb], by simp, fun o ho => ?_⟩
      have : o = 0 ∨ o = 1 := by simp [lb] at ho; omega
      rcases this with rfl | rfl
      · rw [minors0, mS, trim1_0]
      · rw [minors1, m10, m11, Int.mul_zero, trim2_0, trim1_0]
    · rw [trim1_ne h10] at hp
      have hp0 : premN a b ≠ [] := by rw [hp]; simp
      refine ⟨?_, ?_⟩
      · rw [subGo_go (by omega) hp0, hp, one_step, divN_one, subGo_short (by simp)]
        refine RowOk.of (r := [[e0]]) ⟨⟨by simp [lb], by omega, by omega, ?_⟩, trivial⟩ ?_
        · rw [lb, minors1, m10, m11, Int.mul_zero, trim2_0]
          rcases hs with h | h
          · left; rw [h, Int.one_mul, trim1_ne h10]
          · right; rw [h, trim1_ne (by omega)]; simp [negN]
        · exact ⟨by simp, by simp [lb], fun o ho => by simp at ho⟩
      · intro _ _
        rw [hp, one_step, divN_one]
        exact ⟨by decide, fun x _ => Int.one_dvd x, exact_short (by simp)⟩
  · rw [trim2_ne h11] at hp
    have hp0 : premN a b ≠ [] := by rw [hp]; simp
    have hg1 := hg h11
    have hS1 := hS h11
    have hdue : [e0, e1] = minorsN a b (b.length - 2) ∨ [e0, e1] = negN (minorsN a b (b.length - 2)) := by
      rw [lb, minors1, m10, m11]
      rcases hs with h | h
      · left; rw [h, Int.one_mul, Int.one_mul, trim2_ne h11]
      · right; rw [h, trim2_ne (by omega)]; simp [negN]
    have hgo : ∀ row : List (List Int), subGo 3 a b row 1 1 = subGo 2 b [e0, e1] (row ++ [[e0, e1]]) (b.getLastD 0) h1 := fun row => by
      rw [subGo_go (by omega) hp0, hp, one_step, divN_one, lb, hh]
    have hex : Exact 2 b [e0, e1] (b.getLastD 0) h1 → Exact 3 a b 1 1 := fun hx => by
      intro _ _
      rw [hp, one_step, divN_one, lb, hh]
      exact ⟨by decide, fun x _ => Int.one_dvd x, hx⟩
    rw [hgo]
    have est : b.length - [e0, e1].length = 1 := by rw [lb]; rfl
    by_cases h0 : g = 0
    · subst h0
      have hz : S0 = 0 := by
        rcases Int.mul_eq_zero.mp hS1.symm with h | h
        · exact absurd h hd0
        · exact h
      subst hz
      rw [trim1_0] at hg1
      rw [subGo_end hg1]
      refine ⟨RowOk.of (r := [[e0, e1]]) ⟨⟨by simp [lb], by omega, by omega, hdue⟩, trivial⟩ ?_, hex (exact_end hg1)⟩
      refine ⟨by simp, by simp [lb], fun o ho => ?_⟩
      have : o = 0 := by simp at ho; omega
      subst this
      rw [minors0, mS, trim1_0]
    · rw [trim1_ne h0] at hg1
      have hz : S0 ≠ 0 := by intro h; rw [h] at hS1; simp at hS1; exact h0 hS1
      have hg0 : premN b [e0, e1] ≠ [] := by rw [hg1]; simp
      have hdv : divN [g] d = [S0] := by
        unfold divN
        rw [hS1]
        simp [fdiv_mul hd0]
      refine ⟨?_, hex ?_⟩
      · rw [subGo_go (by simp) hg0, hg1, est, hd, hdv, subGo_short (by simp)]
        refine RowOk.of (r := [[e0, e1], [S0]]) ⟨⟨by simp [lb], by omega, by omega, hdue⟩, ⟨by simp, by simp, by simp [lb], ?_⟩, trivial⟩ ?_
        · left
          show _ = minorsN a b 0
          rw [minors0, mS, trim1_ne hz]
        · exact ⟨by simp, by simp [lb], fun o ho => by simp at ho⟩
      · intro _ _
        rw [hg1, est, hd, hdv]
        exact ⟨hd0, fun x hx => by rw [List.mem_singleton.mp hx, hS1]; exact Int.dvd_mul_right d S0, exact_short (by simp)⟩
end Mine
end

section
open PySem PySem.W PySem.Calls PySem.Spec PyProof.Rows
namespace Mine
set_option maxRecDepth 100000
theorem lead_lit {p : List Int} (h : p.getLastD 0 ≠ 0) : Lead p := Nz.lead (p := p) h
theorem pw1 (x : Int) : x ^ 1 = x := by rw [Int.pow_succ]; simp
/-! pseudo-remainders, written out -/
theorem prem22 (a0 a1 b0 b1 : Int) (ha : a1 ≠ 0) (hb : b1 ≠ 0) : premN [a0, a1] [b0, b1] = trimN [a0 * b1 - b0 * a1] :=
  (premN_form (a := [a0, a1]) (b := [b0, b1]) (lead_lit (p := [a0, a1]) ha) hb (show 2 ≤ 2 by decide)).trans (congrArg trimN ((fgoE_ok (.branch 2 (.branch 1 (.leaf a0) (.leaf a1)) (.branch 3 (.leaf b0) (.leaf b1))) [.var 2, .var 3] 1 [.var 0, .var 1]).symm.trans (lists_eq (.branch 2 (.branch 1 (.leaf a0) (.leaf a1)) (.branch 3 (.leaf b0) (.leaf b1))) (fgoE [.var 2, .var 3] 1 [.var 0, .var 1]) [(.sub (.mul (.var 0) (.var 3)) (.mul (.var 2) (.var 1)))] (by decide +kernel))))
theorem prem32 (a0 a1 a2 b0 b1 : Int) (ha : a2 ≠ 0) (hb : b1 ≠ 0) : premN [a0, a1, a2] [b0, b1] = trimN [a0 * b1 * b1 - b0 * (a1 * b1 - b0 * a2)] :=
  (premN_form (a := [a0, a1, a2]) (b := [b0, b1]) (lead_lit (p := [a0, a1, a2]) ha) hb (show 2 ≤ 3 by decide)).trans (congrArg trimN ((fgoE_ok (.branch 2 (.branch 1 (.leaf a0) (.leaf a1)) (.branch 3 (.leaf a2) (.branch 4 (.leaf b0) (.leaf b1)))) [.var 3, .var 4] 2 [.var 0, .var 1, .var 2]).symm.trans (lists_eq (.branch 2 (.branch 1 (.leaf a0) (.leaf a1)) (.branch 3 (.leaf a2) (.branch 4 (.leaf b0) (.leaf b1)))) (fgoE [.var 3, .var 4] 2 [.var 0, .var 1, .var 2]) [(.sub (.mul (.mul (.var 0) (.var 4)) (.var 4)) (.mul (.var 3) (.sub (.mul (.var 1) (.var 4)) (.mul (.var 3) (.var 2)))))] (by decide +kernel))))
theorem prem42 (a0 a1 a2 a3 b0 b1 : Int) (ha : a3 ≠ 0) (hb : b1 ≠ 0) : premN [a0, a1, a2, a3] [b0, b1] = trimN [a0 * b1 * b1 * b1 - b0 * (a1 * b1 * b1 - b0 * (a2 * b1 - b0 * a3))] :=
  (premN_form (a := [a0, a1, a2, a3]) (b := [b0, b1]) (lead_lit (p := [a0, a1, a2, a3]) ha) hb (show 2 ≤ 4 by decide)).trans (congrArg trimN ((fgoE_ok (.branch 3 (.branch 1 (.leaf a0) (.branch 2 (.leaf a1) (.leaf a2))) (.branch 4 (.leaf a3) (.branch 5 (.leaf b0) (.leaf b1)))) [.var 4, .var 5] 3 [.var 0, .var 1, .var 2, .var 3]).symm.trans (lists_eq (.branch 3 (.branch 1 (.leaf a0) (.branch 2 (.leaf a1) (.leaf a2))) (.branch 4 (.leaf a3) (.branch 5 (.leaf b0) (.leaf b1)))) (fgoE [.var 4, .var 5] 3 [.var 0, .var 1, .var 2, .var 3]) [(.sub (.mul (.mul (.mul (.var 0) (.var 5)) (.var 5)) (.var 5)) (.mul (.var 4) (.sub (.mul (.mul (.var 1) (.var 5)) (.var 5)) (.mul (.var 4) (.sub (.mul (.var 2) (.var 5)) (.mul (.var 4) (.var 3)))))))] (by decide +kernel))))
theorem prem33 (a0 a1 a2 b0 b1 b2 : Int) (ha : a2 ≠ 0) (hb : b2 ≠ 0) : premN [a0, a1, a2] [b0, b1, b2] = trimN [a0 * b2 - b0 * a2, a1 * b2 - b1 * a2] :=
  (premN_form (a := [a0, a1, a2]) (b := [b0, b1, b2]) (lead_lit (p := [a0, a1, a2]) ha) hb (show 3 ≤ 3 by decide)).trans (congrArg trimN ((fgoE_ok (.branch 3 (.branch 1 (.leaf a0) (.branch 2 (.leaf a1) (.leaf a2))) (.branch 4 (.leaf b0) (.branch 5 (.leaf b1) (.leaf b2)))) [.var 3, .var 4, .var 5] 1 [.var 0, .var 1, .var 2]).symm.trans (lists_eq (.branch 3 (.branch 1 (.leaf a0) (.branch 2 (.leaf a1) (.leaf a2))) (.branch 4 (.leaf b0) (.branch 5 (.leaf b1) (.leaf b2)))) (fgoE [.var 3, .var 4, .var 5] 1 [.var 0, .var 1, .var 2]) [(.sub (.mul (.var 0) (.var 5)) (.mul (.var 3) (.var 2))), (.sub (.mul (.var 1) (.var 5)) (.mul (.var 4) (.var 2)))] (by decide +kernel))))
theorem prem43 (a0 a1 a2 a3 b0 b1 b2 : Int) (ha : a3 ≠ 0) (hb : b2 ≠ 0) : premN [a0, a1, a2, a3] [b0, b1, b2] = trimN [a0 * b2 * b2 - b0 * (a2 * b2 - b1 * a3), (a1 * b2 - b0 * a3) * b2 - b1 * (a2 * b2 - b1 * a3)] :=
  (premN_form (a := [a0, a1, a2, a3]) (b := [b0, b1, b2]) (lead_lit (p := [a0, a1, a2, a3]) ha) hb (show 3 ≤ 4 by decide)).trans (congrArg trimN ((fgoE_ok (.branch 3 (.branch 1 (.leaf a0) (.branch 2 (.leaf a1) (.leaf a2))) (.branch 5 (.branch 4 (.leaf a3) (.leaf b0)) (.branch 6 (.leaf b1) (.leaf b2)))) [.var 4, .var 5, .var 6] 2 [.var 0, .var 1, .var 2, .var 3]).symm.trans (lists_eq (.branch 3 (.branch 1 (.leaf a0) (.branch 2 (.leaf a1) (.leaf a2))) (.branch 5 (.branch 4 (.leaf a3) (.leaf b0)) (.branch 6 (.leaf b1) (.leaf b2)))) (fgoE [.var 4, .var 5, .var 6] 2 [.var 0, .var 1, .var 2, .var 3]) [(.sub (.mul (.mul (.var 0) (.var 6)) (.var 6)) (.mul (.var 4) (.sub (.mul (.var 2) (.var 6)) (.mul (.var 5) (.var 3))))), (.sub (.mul (.sub (.mul (.var 1) (.var 6)) (.mul (.var 4) (.var 3))) (.var 6)) (.mul (.var 5) (.sub (.mul (.var 2) (.var 6)) (.mul (.var 5) (.var 3)))))] (by decide +kernel))))
theorem prem44 (a0 a1 a2 a3 b0 b1 b2 b3 : Int) (ha : a3 ≠ 0) (hb : b3 ≠ 0) : premN [a0, a1, a2, a3] [b0, b1, b2, b3] = trimN [a0 * b3 - b0 * a3, a1 * b3 - b1 * a3, a2 * b3 - b2 * a3] :=
  (premN_form (a := [a0, a1, a2, a3]) (b := [b0, b1, b2, b3]) (lead_lit (p := [a0, a1, a2, a3]) ha) hb (show 4 ≤ 4 by decide)).trans (congrArg trimN ((fgoE_ok (.branch 4 (.branch 2 (.branch 1 (.leaf a0) (.leaf a1)) (.branch 3 (.leaf a2) (.leaf a3))) (.branch 6 (.branch 5 (.leaf b0) (.leaf b1)) (.branch 7 (.leaf b2) (.leaf b3)))) [.var 4, .var 5, .var 6, .var 7] 1 [.var 0, .var 1, .var 2, .var 3]).symm.trans (lists_eq (.branch 4 (.branch 2 (.branch 1 (.leaf a0) (.leaf a1)) (.branch 3 (.leaf a2) (.leaf a3))) (.branch 6 (.branch 5 (.leaf b0) (.leaf b1)) (.branch 7 (.leaf b2) (.leaf b3)))) (fgoE [.var 4, .var 5, .var 6, .var 7] 1 [.var 0, .var 1, .var 2, .var 3]) [(.sub (.mul (.var 0) (.var 7)) (.mul (.var 4) (.var 3))), (.sub (.mul (.var 1) (.var 7)) (.mul (.var 5) (.var 3))), (.sub (.mul (.var 2) (.var 7)) (.mul (.var 6) (.var 3)))] (by decide +kernel))))
/-! degrees 1 to 3 against less -/
theorem case22 (a0 a1 b0 b1 : Int) (ha : a1 ≠ 0) (hb : b1 ≠ 0) : RowOk [a0, a1] [b0, b1] (subresO [a0, a1] [b0, b1]) ∧ ExactO [a0, a1] [b0, b1] :=
  row2 rfl (prem22 a0 a1 b0 b1 ha hb) (.inr (minor22 a0 a1 b0 b1))
theorem case32 (a0 a1 a2 b0 b1 : Int) (ha : a2 ≠ 0) (hb : b1 ≠ 0) : RowOk [a0, a1, a2] [b0, b1] (subresO [a0, a1, a2] [b0, b1]) ∧ ExactO [a0, a1, a2] [b0, b1] :=
  row2 rfl (prem32 a0 a1 a2 b0 b1 ha hb) (.inl (by rw [minor32]))
theorem case42 (a0 a1 a2 a3 b0 b1 : Int) (ha : a3 ≠ 0) (hb : b1 ≠ 0) : RowOk [a0, a1, a2, a3] [b0, b1] (subresO [a0, a1, a2, a3] [b0, b1]) ∧ ExactO [a0, a1, a2, a3] [b0, b1] :=
  row2 rfl (prem42 a0 a1 a2 a3 b0 b1 ha hb) (.inr (by rw [minor42]))
theorem case33 (a0 a1 a2 b0 b1 b2 : Int) (ha : a2 ≠ 0) (hb : b2 ≠ 0) : RowOk [a0, a1, a2] [b0, b1, b2] (subresO [a0, a1, a2] [b0, b1, b2]) ∧ ExactO [a0, a1, a2] [b0, b1, b2] := by
  obtain ⟨m0, m1⟩ := minor33_1 a0 a1 a2 b0 b1 b2
  have mS := minor33_0 a0 a1 a2 b0 b1 b2
  refine row3 (s := -1) (d := b2) (g := b0 * (a1 * b2 - b1 * a2) * (a1 * b2 - b1 * a2) - (a0 * b2 - b0 * a2) * (b1 * (a1 * b2 - b1 * a2) - (a0 * b2 - b0 * a2) * b2)) rfl (.inr rfl) (prem33 a0 a1 a2 b0 b1 b2 ha hb) (by rw [m0]; grind) (by rw [m1]; grind) rfl rfl ?_ hb (fun h => prem32 _ _ _ _ _ hb h) ?_ ?_
  · simp [nextH]
  · intro _
    rw [mS]
    grind
  · intro h1 h2
    rw [mS, h1, h2]
    simp
theorem g43 (a0 a1 a2 a3 b0 b1 b2 e0 e1 : Int) (h0 : e0 = a0 * b2 * b2 - b0 * (a2 * b2 - b1 * a3)) (h1 : e1 = (a1 * b2 - b0 * a3) * b2 - b1 * (a2 * b2 - b1 * a3)) :
    b0 * e1 * e1 - e0 * (b1 * e1 - e0 * b2) = b2 * b2 * minorN [a0, a1, a2, a3] [b0, b1, b2] 0 0 := by
  subst h0 h1
  exact (terms_eq (.branch 3 (.branch 1 (.leaf a0) (.branch 2 (.leaf a1) (.leaf a2))) (.branch 5 (.branch 4 (.leaf a3) (.leaf b0)) (.branch 6 (.leaf b1) (.leaf b2)))) (.sub (.mul (.mul (.var 4) (.sub (.mul (.sub (.mul (.var 1) (.var 6)) (.mul (.var 4) (.var 3))) (.var 6)) (.mul (.var 5) (.sub (.mul (.var 2) (.var 6)) (.mul (.var 5) (.var 3)))))) (.sub (.mul (.sub (.mul (.var 1) (.var 6)) (.mul (.var 4) (.var 3))) (.var 6)) (.mul (.var 5) (.sub (.mul (.var 2) (.var 6)) (.mul (.var 5) (.var 3)))))) (.mul (.sub (.mul (.mul (.var 0) (.var 6)) (.var 6)) (.mul (.var 4) (.sub (.mul (.var 2) (.var 6)) (.mul (.var 5) (.var 3))))) (.sub (.mul (.var 5) (.sub (.mul (.sub (.mul (.var 1) (.var 6)) (.mul (.var 4) (.var 3))) (.var 6)) (.mul (.var 5) (.sub (.mul (.var 2) (.var 6)) (.mul (.var 5) (.var 3)))))) (.mul (.sub (.mul (.mul (.var 0) (.var 6)) (.var 6)) (.mul (.var 4) (.sub (.mul (.var 2) (.var 6)) (.mul (.var 5) (.var 3))))) (.var 6))))) (.mul (.mul (.var 6) (.var 6)) (detE 5 [[.var 3, .var 2, .var 1, .var 0, .num 0], [.num 0, .var 3, .var 2, .var 1, .var 0], [.var 6, .var 5, .var 4, .num 0, .num 0], [.num 0, .var 6, .var 5, .var 4, .num 0], [.num 0, .num 0, .var 6, .var 5, .var 4]])) (by decide +kernel)).trans (congrArg (b2 * b2 * ·) (detE_ok (.branch 3 (.branch 1 (.leaf a0) (.branch 2 (.leaf a1) (.leaf a2))) (.branch 5 (.branch 4 (.leaf a3) (.leaf b0)) (.branch 6 (.leaf b1) (.leaf b2)))) 5 [[.var 3, .var 2, .var 1, .var 0, .num 0], [.num 0, .var 3, .var 2, .var 1, .var 0], [.var 6, .var 5, .var 4, .num 0, .num 0], [.num 0, .var 6, .var 5, .var 4, .num 0], [.num 0, .num 0, .var 6, .var 5, .var 4]]))
theorem case43 (a0 a1 a2 a3 b0 b1 b2 : Int) (ha : a3 ≠ 0) (hb : b2 ≠ 0) : RowOk [a0, a1, a2, a3] [b0, b1, b2] (subresO [a0, a1, a2, a3] [b0, b1, b2]) ∧ ExactO [a0, a1, a2, a3] [b0, b1, b2] := by
  obtain ⟨m0, m1⟩ := minor43_1 a0 a1 a2 a3 b0 b1 b2
  have mS := g43 a0 a1 a2 a3 b0 b1 b2 _ _ rfl rfl
  refine row3 (s := 1) (d := b2 * b2) (h1 := b2) rfl (.inl rfl) (prem43 a0 a1 a2 a3 b0 b1 b2 ha hb) (by rw [m0]; grind) (by rw [m1]; grind) rfl ?_ ?_ (Int.mul_ne_zero hb hb) (fun h => prem32 _ _ _ _ _ hb h) ?_ ?_
  · simp [nextH, Int.fdiv_one, pw1]
  · simp [pw1]
  · intro _
    exact mS
  · intro h1 h2
    have h3 : b2 * b2 * minorN [a0, a1, a2, a3] [b0, b1, b2] 0 0 = 0 := by
      rw [← mS, h1, h2]
      simp
    rcases Int.mul_eq_zero.mp h3 with h | h
    · exact absurd h (Int.mul_ne_zero hb hb)
    · exact h
/-! degree 3 against degree 3 -/
def k0 (e0 e1 e2 g0 g1 : Int) : Int := e0 * g1 * g1 - g0 * (e1 * g1 - g0 * e2)
theorem prem43' (e0 e1 e2 b0 b1 b2 b3 : Int) (hb : b3 ≠ 0) (he : e2 ≠ 0) : premN [b0, b1, b2, b3] [e0, e1, e2] = trimN [b0 * e2 * e2 - e0 * (b2 * e2 - e1 * b3), (b1 * e2 - e0 * b3) * e2 - e1 * (b2 * e2 - e1 * b3)] := prem43 b0 b1 b2 b3 e0 e1 e2 hb he
theorem s44 (a0 a1 a2 a3 b0 b1 b2 b3 e0 e1 e2 : Int) (h0 : e0 = a0 * b3 - b0 * a3) (h1 : e1 = a1 * b3 - b1 * a3) (h2 : e2 = a2 * b3 - b2 * a3) :
    b0 * e2 * e2 - e0 * (b2 * e2 - e1 * b3) = b3 * minorN [a0, a1, a2, a3] [b0, b1, b2, b3] 1 0 ∧ (b1 * e2 - e0 * b3) * e2 - e1 * (b2 * e2 - e1 * b3) = b3 * minorN [a0, a1, a2, a3] [b0, b1, b2, b3] 1 1 := by
  subst h0 h1 h2
  exact ⟨(terms_eq (.branch 4 (.branch 2 (.branch 1 (.leaf a0) (.leaf a1)) (.branch 3 (.leaf a2) (.leaf a3))) (.branch 6 (.branch 5 (.leaf b0) (.leaf b1)) (.branch 7 (.leaf b2) (.leaf b3)))) (.sub (.mul (.mul (.var 4) (.sub (.mul (.var 2) (.var 7)) (.mul (.var 6) (.var 3)))) (.sub (.mul (.var 2) (.var 7)) (.mul (.var 6) (.var 3)))) (.mul (.sub (.mul (.var 0) (.var 7)) (.mul (.var 4) (.var 3))) (.sub (.mul (.var 6) (.sub (.mul (.var 2) (.var 7)) (.mul (.var 6) (.var 3)))) (.mul (.sub (.mul (.var 1) (.var 7)) (.mul (.var 5) (.var 3))) (.var 7))))) (.mul (.var 7) (detE 4 [[.var 3, .var 2, .var 1, .num 0], [.num 0, .var 3, .var 2, .var 0], [.var 7, .var 6, .var 5, .num 0], [.num 0, .var 7, .var 6, .var 4]])) (by decide +kernel)).trans (congrArg (b3 * ·) (detE_ok (.branch 4 (.branch 2 (.branch 1 (.leaf a0) (.leaf a1)) (.branch 3 (.leaf a2) (.leaf a3))) (.branch 6 (.branch 5 (.leaf b0) (.leaf b1)) (.branch 7 (.leaf b2) (.leaf b3)))) 4 [[.var 3, .var 2, .var 1, .num 0], [.num 0, .var 3, .var 2, .var 0], [.var 7, .var 6, .var 5, .num 0], [.num 0, .var 7, .var 6, .var 4]])),
    (terms_eq (.branch 4 (.branch 2 (.branch 1 (.leaf a0) (.leaf a1)) (.branch 3 (.leaf a2) (.leaf a3))) (.branch 6 (.branch 5 (.leaf b0) (.leaf b1)) (.branch 7 (.leaf b2) (.leaf b3)))) (.sub (.mul (.sub (.mul (.var 5) (.sub (.mul (.var 2) (.var 7)) (.mul (.var 6) (.var 3)))) (.mul (.sub (.mul (.var 0) (.var 7)) (.mul (.var 4) (.var 3))) (.var 7))) (.sub (.mul (.var 2) (.var 7)) (.mul (.var 6) (.var 3)))) (.mul (.sub (.mul (.var 1) (.var 7)) (.mul (.var 5) (.var 3))) (.sub (.mul (.var 6) (.sub (.mul (.var 2) (.var 7)) (.mul (.var 6) (.var 3)))) (.mul (.sub (.mul (.var 1) (.var 7)) (.mul (.var 5) (.var 3))) (.var 7))))) (.mul (.var 7) (detE 4 [[.var 3, .var 2, .var 1, .var 0], [.num 0, .var 3, .var 2, .var 1], [.var 7, .var 6, .var 5, .var 4], [.num 0, .var 7, .var 6, .var 5]])) (by decide +kernel)).trans (congrArg (b3 * ·) (detE_ok (.branch 4 (.branch 2 (.branch 1 (.leaf a0) (.leaf a1)) (.branch 3 (.leaf a2) (.leaf a3))) (.branch 6 (.branch 5 (.leaf b0) (.leaf b1)) (.branch 7 (.leaf b2) (.leaf b3)))) 4 [[.var 3, .var 2, .var 1, .var 0], [.num 0, .var 3, .var 2, .var 1], [.var 7, .var 6, .var 5, .var 4], [.num 0, .var 7, .var 6, .var 5]]))⟩
theorem res_k (b0 b1 b2 b3 e0 e1 e2 : Int) : e2 * e2 * res23 e0 e1 e2 b0 b1 b2 b3 = k0 e0 e1 e2 (b0 * e2 * e2 - e0 * (b2 * e2 - e1 * b3)) ((b1 * e2 - e0 * b3) * e2 - e1 * (b2 * e2 - e1 * b3)) :=
  terms_eq (.branch 3 (.branch 1 (.leaf b0) (.branch 2 (.leaf b1) (.leaf b2))) (.branch 5 (.branch 4 (.leaf b3) (.leaf e0)) (.branch 6 (.leaf e1) (.leaf e2)))) (.mul (.mul (.var 6) (.var 6)) (res23E (.var 4) (.var 5) (.var 6) (.var 0) (.var 1) (.var 2) (.var 3))) (.sub (.mul (.mul (.var 4) (.sub (.mul (.sub (.mul (.var 1) (.var 6)) (.mul (.var 4) (.var 3))) (.var 6)) (.mul (.var 5) (.sub (.mul (.var 2) (.var 6)) (.mul (.var 5) (.var 3)))))) (.sub (.mul (.sub (.mul (.var 1) (.var 6)) (.mul (.var 4) (.var 3))) (.var 6)) (.mul (.var 5) (.sub (.mul (.var 2) (.var 6)) (.mul (.var 5) (.var 3)))))) (.mul (.sub (.mul (.mul (.var 0) (.var 6)) (.var 6)) (.mul (.var 4) (.sub (.mul (.var 2) (.var 6)) (.mul (.var 5) (.var 3))))) (.sub (.mul (.var 5) (.sub (.mul (.sub (.mul (.var 1) (.var 6)) (.mul (.var 4) (.var 3))) (.var 6)) (.mul (.var 5) (.sub (.mul (.var 2) (.var 6)) (.mul (.var 5) (.var 3)))))) (.mul (.sub (.mul (.mul (.var 0) (.var 6)) (.var 6)) (.mul (.var 4) (.sub (.mul (.var 2) (.var 6)) (.mul (.var 5) (.var 3))))) (.var 6))))) (by decide +kernel)
theorem res_5 (b0 b1 b2 b3 e0 e1 : Int) : res23 e0 e1 0 b0 b1 b2 b3 = -(b3 * (b0 * e1 * e1 * e1 - e0 * (b1 * e1 * e1 - e0 * (b2 * e1 - e0 * b3)))) :=
  terms_eq (.branch 3 (.branch 1 (.leaf b0) (.branch 2 (.leaf b1) (.leaf b2))) (.branch 4 (.leaf b3) (.branch 5 (.leaf e0) (.leaf e1)))) (res23E (.var 4) (.var 5) (.num 0) (.var 0) (.var 1) (.var 2) (.var 3)) (.neg (.mul (.var 3) (.sub (.mul (.mul (.mul (.var 0) (.var 5)) (.var 5)) (.var 5)) (.mul (.var 4) (.sub (.mul (.mul (.var 1) (.var 5)) (.var 5)) (.mul (.var 4) (.sub (.mul (.var 2) (.var 5)) (.mul (.var 4) (.var 3))))))))) (by decide +kernel)
theorem k0_scale (e0 e1 e2 d s0 s1 : Int) : k0 e0 e1 e2 (d * s0) (d * s1) = d * d * k0 e0 e1 e2 s0 s1 :=
  terms_eq (.branch 3 (.branch 1 (.leaf e0) (.branch 2 (.leaf e1) (.leaf e2))) (.branch 4 (.leaf d) (.branch 5 (.leaf s0) (.leaf s1)))) (.sub (.mul (.mul (.var 0) (.mul (.var 3) (.var 5))) (.mul (.var 3) (.var 5))) (.mul (.mul (.var 3) (.var 4)) (.sub (.mul (.var 1) (.mul (.var 3) (.var 5))) (.mul (.mul (.var 3) (.var 4)) (.var 2))))) (.mul (.mul (.var 3) (.var 3)) (.sub (.mul (.mul (.var 0) (.var 5)) (.var 5)) (.mul (.var 4) (.sub (.mul (.var 1) (.var 5)) (.mul (.var 4) (.var 2)))))) (by decide +kernel)
theorem aux44 {b e K S : Int} (h : e * e * -(b * b * S) = b * b * K) : b * b * (K - e * e * -S) = 0 := by
  have e1 : b * b * (K - e * e * -S) = b * b * K - e * e * -(b * b * S) :=
    terms_eq (.branch 2 (.branch 1 (.leaf b) (.leaf e)) (.branch 3 (.leaf K) (.leaf S))) (.mul (.mul (.var 0) (.var 0)) (.sub (.var 2) (.mul (.mul (.var 1) (.var 1)) (.neg (.var 3))))) (.sub (.mul (.mul (.var 0) (.var 0)) (.var 2)) (.mul (.mul (.var 1) (.var 1)) (.neg (.mul (.mul (.var 0) (.var 0)) (.var 3))))) (by decide +kernel)
  rw [e1, h]
  exact Int.sub_self _
theorem neg_trim3 {x y z : Int} : [x, y, z] = negN [-x, -y, -z] := by simp [negN]
theorem case44 (a0 a1 a2 a3 b0 b1 b2 b3 : Int) (ha : a3 ≠ 0) (hb : b3 ≠ 0) : RowOk [a0, a1, a2, a3] [b0, b1, b2, b3] (subresO [a0, a1, a2, a3] [b0, b1, b2, b3]) ∧ ExactO [a0, a1, a2, a3] [b0, b1, b2, b3] := by
  have hp := prem44 a0 a1 a2 a3 b0 b1 b2 b3 ha hb
  obtain ⟨m20, m21, m22⟩ := minor44_2 a0 a1 a2 a3 b0 b1 b2 b3
  have mR := minor44_0 a0 a1 a2 a3 b0 b1 b2 b3
  obtain ⟨e0, he0⟩ : ∃ e0, a0 * b3 - b0 * a3 = e0 := ⟨_, rfl⟩
  obtain ⟨e1, he1⟩ : ∃ e1, a1 * b3 - b1 * a3 = e1 := ⟨_, rfl⟩
  obtain ⟨e2, he2⟩ : ∃ e2, a2 * b3 - b2 * a3 = e2 := ⟨_, rfl⟩
  obtain ⟨q0, q1⟩ := s44 a0 a1 a2 a3 b0 b1 b2 b3 e0 e1 e2 he0.symm he1.symm he2.symm
  rw [he0, he1, he2] at hp mR
  rw [he0] at m20
  rw [he1] at m21
  rw [he2] at m22
  clear he0 he1 he2
  obtain ⟨A, hA⟩ : ∃ A, [a0, a1, a2, a3] = A := ⟨_, rfl⟩
  rw [hA] at hp m20 m21 m22 mR q0 q1 ⊢
  have hAl : A.length = 4 := by rw [← hA]; rfl
  obtain ⟨B, hB⟩ : ∃ B, [b0, b1, b2, b3] = B := ⟨_, rfl⟩
  have hBl : B.length = 4 := by rw [← hB]; rfl
  have hBL : B.getLastD 0 = b3 := by rw [← hB]; rfl
  have hp43 : e2 ≠ 0 → premN B [e0, e1, e2] = trimN [b3 * minorN A B 1 0, b3 * minorN A B 1 1] := fun h => by
    have := prem43' e0 e1 e2 b0 b1 b2 b3 hb h
    rw [hB] at this
    rw [hB] at q0 q1
    rw [this, q0, q1]
  have hp42 : e1 ≠ 0 → premN B [e0, e1] = trimN [b0 * e1 * e1 * e1 - e0 * (b1 * e1 * e1 - e0 * (b2 * e1 - e0 * b3))] := fun h => by
    have := prem42 b0 b1 b2 b3 e0 e1 hb h
    rw [hB] at this
    exact this
  rw [hB] at hp m20 m21 m22 mR q0 q1 ⊢
  have hk := res_k b0 b1 b2 b3 e0 e1 e2
  rw [q0, q1, k0_scale] at hk
  obtain ⟨S0, hS⟩ : ∃ S0, minorN A B 0 0 = S0 := ⟨_, rfl⟩
  obtain ⟨s0, hs0⟩ : ∃ s0, minorN A B 1 0 = s0 := ⟨_, rfl⟩
  obtain ⟨s1, hs1⟩ : ∃ s1, minorN A B 1 1 = s1 := ⟨_, rfl⟩
  rw [hS] at mR
  rw [hs0, hs1] at hk hp43
  rw [hs0] at q0
  rw [hs1] at q1
  have hbb : b3 * b3 ≠ 0 := Int.mul_ne_zero hb hb
  -- the last remainder
  have hkS : k0 e0 e1 e2 s0 s1 = e2 * e2 * -S0 := by
    have h1 : b3 * b3 * (k0 e0 e1 e2 s0 s1 - e2 * e2 * -S0) = 0 := by
      have : res23 e0 e1 e2 b0 b1 b2 b3 = -(b3 * b3 * S0) := by omega
      rw [this] at hk
      exact aux44 hk
    rcases Int.mul_eq_zero.mp h1 with h | h
    · exact absurd h hbb
    · omega
  have M0 : minorsN A B 0 = trimN [S0] := by rw [minors0, hS]
  have M1 : minorsN A B 1 = trimN [s0, s1] := by rw [minors1, hs0, hs1]
  have M2 : minorsN A B 2 = trimN [-e0, -e1, -e2] := by rw [minors2, m20, m21, m22]
  have q00 : e0 = 0 → e1 = 0 → e2 = 0 → s0 = 0 := fun h0 h1 h2 => by
    have h3 : b3 * s0 = 0 := by
      rw [← q0, h0, h1, h2]
      simp
    rcases Int.mul_eq_zero.mp h3 with h | h
    · exact absurd h hb
    · exact h
  have q11 : e0 = 0 → e1 = 0 → e2 = 0 → s1 = 0 := fun h0 h1 h2 => by
    have h3 : b3 * s1 = 0 := by
      rw [← q1, h0, h1, h2]
      simp
    rcases Int.mul_eq_zero.mp h3 with h | h
    · exact absurd h hb
    · exact h
  clear q0 q1 hk hS hs0 hs1 m20 m21 m22
  unfold subresO ExactO
  rw [hBl]
  have hgo : ∀ {r : List Int}, premN A B = r → r ≠ [] → ∀ row : List (List Int), subGo 4 A B row 1 1 = subGo 3 B r (row ++ [r]) b3 1 := fun h h0 row => by
    rw [subGo_go (by omega) (h ▸ h0), h, one_step, divN_one, hAl, hBl, hBL]
    rfl
  have hex : ∀ {r : List Int}, premN A B = r → Exact 3 B r b3 1 → Exact 4 A B 1 1 := fun h hx => by
    intro _ _
    rw [h, one_step, divN_one, hAl, hBl, hBL]
    exact ⟨by decide, fun x _ => Int.one_dvd x, hx⟩
  by_cases h2 : e2 = 0
  · subst h2
    rw [trim3_0] at hp
    have M2' : minorsN A B 2 = trimN [-e0, -e1] := by rw [M2, Int.neg_zero, trim3_0]
    by_cases h1 : e1 = 0
    · subst h1
      rw [trim2_0] at hp
      by_cases h0 : e0 = 0
      · -- nothing left
        subst h0
        rw [trim1_0] at hp
        have hS0 : S0 = 0 := by
          have h3 : b3 * b3 * S0 = 0 := by rw [mR]; simp [res23]
          rcases Int.mul_eq_zero.mp h3 with h | h
          · exact absurd h hbb
          · exact h
        rw [subGo_end hp]
        refine ⟨RowOk.of trivial ?_, exact_end hp⟩
        refine ⟨by simp [hBl], by simp, fun o ho => ?_⟩
        have : o = 0 ∨ o = 1 ∨ o = 2 := by simp [hBl] at ho; omega
        rcases this with rfl | rfl | rfl
        · rw [M0, hS0, trim1_0]
        · rw [M1, q00 rfl rfl rfl, q11 rfl rfl rfl, trim2_0, trim1_0]
        · rw [M2', Int.neg_zero, trim2_0, trim1_0]
      · rw [trim1_ne h0] at hp
        refine ⟨?_, hex hp (exact_short (by simp))⟩
        rw [hgo hp (by simp), subGo_short (by simp)]
        refine RowOk.of (r := [[e0]]) ⟨⟨by simp [hBl], by omega, by omega, ?_⟩, trivial⟩ ?_
        · right
          rw [hBl, M2', Int.neg_zero, trim2_0, trim1_ne (by omega)]
          simp [negN]
        · exact ⟨by simp, by simp [hBl], fun o ho => by simp at ho⟩
    · -- two terms left
      rw [trim2_ne h1] at hp
      have hg1 := hp42 h1
      have h5 := res_5 b0 b1 b2 b3 e0 e1
      obtain ⟨g, hg⟩ : ∃ g, b0 * e1 * e1 * e1 - e0 * (b1 * e1 * e1 - e0 * (b2 * e1 - e0 * b3)) = g := ⟨_, rfl⟩
      rw [hg] at hg1 h5
      have hgS : g = b3 * S0 := by
        rw [h5] at mR
        have h6 : b3 * (g - b3 * S0) = 0 := by
          have : b3 * (g - b3 * S0) = b3 * g - b3 * b3 * S0 := by rw [Int.mul_sub, Int.mul_assoc]
          omega
        rcases Int.mul_eq_zero.mp h6 with h | h
        · exact absurd h hb
        · omega
      have est : B.length - [e0, e1].length = 2 := by rw [hBl]; rfl
      have hd : b3 * 1 ^ 2 = b3 := by simp
      have hdue : [e0, e1] = minorsN A B (B.length - 2) ∨ [e0, e1] = negN (minorsN A B (B.length - 2)) := by
        right
        rw [hBl, M2', trim2_ne (by omega)]
        simp [negN]
      by_cases h0 : g = 0
      · rw [h0, trim1_0] at hg1
        have hz : S0 = 0 := by
          rw [h0] at hgS
          rcases Int.mul_eq_zero.mp hgS.symm with h | h
          · exact absurd h hb
          · exact h
        refine ⟨?_, hex hp (exact_end hg1)⟩
        rw [hgo hp (by simp), subGo_end hg1]
        refine RowOk.of (r := [[e0, e1]]) ⟨⟨by simp [hBl], by omega, by omega, hdue⟩, trivial⟩ ?_
        refine ⟨by simp, by simp [hBl], fun o ho => ?_⟩
        have : o = 0 := by simp at ho; omega
        subst this
        rw [M0, hz, trim1_0]
      · rw [trim1_ne h0] at hg1
        have hz : S0 ≠ 0 := by intro h; rw [h] at hgS; simp at hgS; exact h0 hgS
        have hg0 : premN B [e0, e1] ≠ [] := by rw [hg1]; simp
        have hdv : divN [g] b3 = [S0] := by
          unfold divN
          rw [hgS]
          simp [fdiv_mul hb]
        refine ⟨?_, hex hp ?_⟩
        · rw [hgo hp (by simp), subGo_go (by simp) hg0, hg1, est, hd, hdv, subGo_short (by simp)]
          refine RowOk.of (r := [[e0, e1], [S0]]) ⟨⟨by simp [hBl], by omega, by omega, hdue⟩, ⟨by simp, by simp, by simp [hBl], ?_⟩, trivial⟩ ?_
          · left
            show _ = minorsN A B 0
            rw [M0, trim1_ne hz]
          · exact ⟨by simp, by simp [hBl], fun o ho => by simp at ho⟩
        · intro _ _
          rw [hg1, est, hd, hdv]
          exact ⟨hb, fun x hx => by rw [List.mem_singleton.mp hx, hgS]; exact Int.dvd_mul_right b3 S0, exact_short (by simp)⟩
  · -- three terms left
    rw [trim3_ne h2] at hp
    have hg1 := hp43 h2
    have est : B.length - [e0, e1, e2].length = 1 := by rw [hBl]; rfl
    have hd : b3 * 1 ^ 1 = b3 := by simp
    have hdue : [e0, e1, e2] = minorsN A B (B.length - 2) ∨ [e0, e1, e2] = negN (minorsN A B (B.length - 2)) := by
      right
      rw [hBl, M2, trim3_ne (by omega)]
      simp [negN]
    have hgo2 : ∀ {r : List Int}, divN (premN B [e0, e1, e2]) b3 = r → premN B [e0, e1, e2] ≠ [] → ∀ row : List (List Int), subGo 3 B [e0, e1, e2] row b3 1 = subGo 2 [e0, e1, e2] r (row ++ [r]) e2 e2 := fun h h0 row => by
      rw [subGo_go (by simp) h0, est, hd, h]
      simp [nextH, Int.fdiv_one, pw1]
    have hex2 : ∀ {r : List Int}, divN (premN B [e0, e1, e2]) b3 = r → (∀ x ∈ premN B [e0, e1, e2], b3 ∣ x) → Exact 2 [e0, e1, e2] r e2 e2 → Exact 3 B [e0, e1, e2] b3 1 := fun h hx hy => by
      intro _ _
      rw [est, hd, h]
      refine ⟨hb, hx, ?_⟩
      simpa [nextH, Int.fdiv_one, pw1] using hy
    by_cases hs1 : s1 = 0
    · subst hs1
      rw [Int.mul_zero, trim2_0] at hg1
      rw [trim2_0] at M1
      by_cases hs0 : s0 = 0
      · subst hs0
        rw [Int.mul_zero, trim1_0] at hg1
        have hz : S0 = 0 := by
          have h3 : e2 * e2 * -S0 = 0 := by rw [← hkS]; simp [k0]
          rcases Int.mul_eq_zero.mp h3 with h | h
          · exact absurd h (Int.mul_ne_zero h2 h2)
          · omega
        refine ⟨?_, hex hp (exact_end hg1)⟩
        rw [hgo hp (by simp), subGo_end hg1]
        refine RowOk.of (r := [[e0, e1, e2]]) ⟨⟨by simp [hBl], by omega, by omega, hdue⟩, trivial⟩ ?_
        refine ⟨by simp, by simp [hBl], fun o ho => ?_⟩
        have : o = 0 ∨ o = 1 := by simp at ho; omega
        rcases this with rfl | rfl
        · rw [M0, hz, trim1_0]
        · rw [M1, trim1_0]
      · have hn : b3 * s0 ≠ 0 := Int.mul_ne_zero hb hs0
        rw [trim1_ne hn] at hg1
        have hdv : divN (premN B [e0, e1, e2]) b3 = [s0] := by
          rw [hg1]
          unfold divN
          simp [fdiv_mul hb]
        have hx : ∀ x ∈ premN B [e0, e1, e2], b3 ∣ x := fun x hx => by
          rw [hg1] at hx
          rw [List.mem_singleton.mp hx]
          exact Int.dvd_mul_right b3 s0
        refine ⟨?_, hex hp (hex2 hdv hx (exact_short (by simp)))⟩
        rw [hgo hp (by simp), hgo2 hdv (by rw [hg1]; simp), subGo_short (by simp)]
        refine RowOk.of (r := [[e0, e1, e2], [s0]]) ⟨⟨by simp [hBl], by omega, by omega, hdue⟩, ⟨by simp, by simp, by simp [hBl], ?_⟩, trivial⟩ ?_
        · left
          show _ = minorsN A B 1
          rw [M1, trim1_ne hs0]
        · exact ⟨by simp, by simp [hBl], fun o ho => by simp at ho⟩
    · have hn : b3 * s1 ≠ 0 := Int.mul_ne_zero hb hs1
      rw [trim2_ne hn] at hg1
      rw [trim2_ne hs1] at M1
      have hdv : divN (premN B [e0, e1, e2]) b3 = [s0, s1] := by
        rw [hg1]
        unfold divN
        simp [fdiv_mul hb]
      have hx : ∀ x ∈ premN B [e0, e1, e2], b3 ∣ x := fun x hx => by
        rw [hg1] at hx
        simp only [List.mem_cons, List.not_mem_nil, or_false] at hx
        rcases hx with rfl | rfl
        · exact Int.dvd_mul_right b3 s0
        · exact Int.dvd_mul_right b3 s1
      have hk1 : premN [e0, e1, e2] [s0, s1] = trimN [e2 * e2 * -S0] := by
        rw [prem32 e0 e1 e2 s0 s1 h2 hs1, ← hkS]
        rfl
      have est2 : [e0, e1, e2].length - [s0, s1].length = 1 := rfl
      have hd2 : e2 * e2 ^ 1 = e2 * e2 := by rw [pw1]
      have he22 : e2 * e2 ≠ 0 := Int.mul_ne_zero h2 h2
      by_cases h0 : S0 = 0
      · subst h0
        rw [Int.neg_zero, Int.mul_zero, trim1_0] at hk1
        refine ⟨?_, hex hp (hex2 hdv hx (exact_end hk1))⟩
        rw [hgo hp (by simp), hgo2 hdv (by rw [hg1]; simp), subGo_end hk1]
        refine RowOk.of (r := [[e0, e1, e2], [s0, s1]]) ⟨⟨by simp [hBl], by omega, by omega, hdue⟩, ⟨by simp, by simp, by simp [hBl], ?_⟩, trivial⟩ ?_
        · left
          show _ = minorsN A B 1
          rw [M1]
        · refine ⟨by simp, by simp [hBl], fun o ho => ?_⟩
          have : o = 0 := by simp at ho; omega
          subst this
          rw [M0, trim1_0]
      · have hn2 : e2 * e2 * -S0 ≠ 0 := Int.mul_ne_zero he22 (by omega)
        rw [trim1_ne hn2] at hk1
        have hk0 : premN [e0, e1, e2] [s0, s1] ≠ [] := by rw [hk1]; simp
        have hdv2 : divN [e2 * e2 * -S0] (e2 * e2) = [-S0] := by
          unfold divN
          simp only [List.map_cons, List.map_nil, fdiv_mul he22]
        refine ⟨?_, hex hp (hex2 hdv hx ?_)⟩
        · rw [hgo hp (by simp), hgo2 hdv (by rw [hg1]; simp), subGo_go (by simp) hk0, hk1, est2, hd2, hdv2, subGo_short (by simp)]
          refine RowOk.of (r := [[e0, e1, e2], [s0, s1], [-S0]]) ⟨⟨by simp [hBl], by omega, by omega, hdue⟩, ⟨by simp, by simp, by simp [hBl], ?_⟩, ⟨by simp, by simp, by simp [hBl], ?_⟩, trivial⟩ ?_
          · left
            show _ = minorsN A B 1
            rw [M1]
          · right
            show _ = negN (minorsN A B 0)
            rw [M0, trim1_ne h0]
            simp [negN]
          · exact ⟨by simp, by simp [hBl], fun o ho => by simp at ho⟩
        · intro _ _
          rw [hk1, est2, hd2, hdv2]
          exact ⟨he22, fun x hx => by rw [List.mem_singleton.mp hx]; exact Int.dvd_mul_right _ _, exact_short (by simp)⟩
end Mine
end

section
open PySem PySem.W PySem.Calls PySem.Spec PyProof.Rows
namespace Mine
theorem nz2 {a0 a1 : Int} (h : Nz [a0, a1]) : a1 ≠ 0 := by simpa [Nz] using h
theorem nz3 {a0 a1 a2 : Int} (h : Nz [a0, a1, a2]) : a2 ≠ 0 := by simpa [Nz] using h
theorem nz4 {a0 a1 a2 a3 : Int} (h : Nz [a0, a1, a2, a3]) : a3 ≠ 0 := by simpa [Nz] using h
theorem row_ok4 {a b : List Int} (ha : Nz a) (hb : Nz b) (h2 : 2 ≤ b.length) (hl : b.length ≤ a.length) (h4 : a.length ≤ 4) : RowOk a b (subresO a b) ∧ ExactO a b := by
  match a, b, ha, hb, h2, hl, h4 with
  | _, [], _, _, h, _, _ => exact absurd h (by decide)
  | _, [_], _, _, h, _, _ => exact absurd h (by simp)
  | [], _ :: _ :: _, _, _, _, h, _ => exact absurd h (by simp)
  | [_], _ :: _ :: _, _, _, _, h, _ => exact absurd h (by simp)
  | [a0, a1], [b0, b1], ha, hb, _, _, _ => exact case22 _ _ _ _ (nz2 ha) (nz2 hb)
  | [_, _], _ :: _ :: _ :: _, _, _, _, h, _ => exact absurd h (by simp)
  | [a0, a1, a2], [b0, b1], ha, hb, _, _, _ => exact case32 _ _ _ _ _ (nz3 ha) (nz2 hb)
  | [a0, a1, a2], [b0, b1, b2], ha, hb, _, _, _ => exact case33 _ _ _ _ _ _ (nz3 ha) (nz3 hb)
  | [_, _, _], _ :: _ :: _ :: _ :: _, _, _, _, h, _ => exact absurd h (by simp)
  | [a0, a1, a2, a3], [b0, b1], ha, hb, _, _, _ => exact case42 _ _ _ _ _ _ (nz4 ha) (nz2 hb)
  | [a0, a1, a2, a3], [b0, b1, b2], ha, hb, _, _, _ => exact case43 _ _ _ _ _ _ _ (nz4 ha) (nz3 hb)
  | [a0, a1, a2, a3], [b0, b1, b2, b3], ha, hb, _, _, _ => exact case44 _ _ _ _ _ _ _ _ (nz4 ha) (nz4 hb)
  | [_, _, _, _], _ :: _ :: _ :: _ :: _ :: _, _, _, _, h, _ => exact absurd h (by simp)
  | _ :: _ :: _ :: _ :: _ :: _, _, _, _, _, _, h => exact absurd h (by simp)
theorem exact4 {a b : List Int} (ha : Nz a) (hb : Nz b) (hl : b.length ≤ a.length) (h4 : a.length ≤ 4) : ExactO a b := by
  by_cases h2 : 2 ≤ b.length
  · exact (row_ok4 ha hb h2 hl h4).2
  · exact exact_short (by omega)
theorem exactN4 {a b : List Int} (ha : Nz a) (hb : Nz b) (h4 : a.length ≤ 4) (h4' : b.length ≤ 4) : ExactN a b := by
  unfold ExactN
  split
  · exact exact4 hb ha (by omega) h4'
  · exact exact4 ha hb (by omega) h4
/-! sizes -/
theorem pow_bits' {n : Nat} {x : Int} (h : Builtin.Int.intBits x ≤ n) : ∀ k : Nat, 1 ≤ k → Builtin.Int.intBits (x ^ k) ≤ k * n
  | 1, _ => by rw [pw1]; omega
  | k + 2, _ => by
    rw [Int.pow_succ]
    have := intBits_mul_le (pow_bits' h (k + 1) (by omega)) h
    rw [Nat.succ_mul]
    exact this
theorem pgo_sm {b : List Int} {m : Nat} (hb : b ≠ []) (h0 : b.getLastD 0 ≠ 0) (sb : Sm m b) : ∀ (n : Nat) (r : List Int) (left k : Nat), r.length ≤ n → r.length + 1 ≤ left + b.length → Sm k r → Sm (k + left * (m + 1)) (pgo b (b.getLastD 0) n r left)
  | 0, r, left, k, hn, _, _ => by
    have : r = [] := List.eq_nil_of_length_eq_zero (by omega)
    subst this
    intro x hx
    have := scaleN_len ([] : List Int) (b.getLastD 0 ^ left)
    rw [pgo] at hx
    simp [scaleN] at hx
  | n + 1, r, left, k, hn, hl, hs => by
    by_cases hr : b.length ≤ r.length
    · rw [pgo_go hr]
      have h1 := pstep_len hb rfl h0 hr
      have h2 := Sm.pstep (f := b.getLastD 0) sb sb.last hs
      obtain ⟨l, rfl⟩ : ∃ l, left = l + 1 := ⟨left - 1, by omega⟩
      rw [Nat.add_sub_cancel]
      have := pgo_sm hb h0 sb n (pstep b (b.getLastD 0) r) l (k + m + 1) (by omega) (by omega) h2
      refine this.mono ?_
      rw [Nat.succ_mul]
      omega
    · rw [pgo_stop hr]
      by_cases hz : left = 0
      · subst hz
        unfold scaleN
        simp
        exact hs
      · have h2 := Sm.scale (n := left * m) hs (pow_bits' sb.last left (by omega))
        refine h2.mono ?_
        rw [Nat.mul_succ]
        omega
theorem premN_sm {a b : List Int} {k m : Nat} (hb : Nz b) (sa : Sm k a) (sb : Sm m b) : Sm (k + (a.length + 1 - b.length) * (m + 1)) (premN a b) :=
  pgo_sm hb.ne hb sb a.length a _ k (Nat.le_refl _) (by omega) sa
/-- a turn of the row's run is fine when the next is -/
theorem fin_step {n : Nat} {a b : List Int} {f h : Int} {K kb : Nat} (la : a.length ≤ 8) (lb : b.length ≤ a.length) (hb : Nz b) (sa : Sm 1000000 a) (sb : Sm 1000000 b) (sK : Sm kb b) (hK : kb ≤ K) (bf : Builtin.Int.intBits f ≤ 1000000) (bh : Builtin.Int.intBits h ≤ 1000000) (h0 : h ≠ 0) (f0 : f ≠ 0)
    (next : 1 < b.length → premN a b ≠ [] → Fine n b (divN (premN a b) (f * h ^ (a.length - b.length))) (b.getLastD 0) (nextH (b.getLastD 0) (a.length - b.length) h) ∧
      ∀ row : List (List Int), row.getLastD [] = divN (premN a b) (f * h ^ (a.length - b.length)) → Sm K ((subGo n b (divN (premN a b) (f * h ^ (a.length - b.length))) row (b.getLastD 0) (nextH (b.getLastD 0) (a.length - b.length) h)).getLastD [])) :
    Fine (n + 1) a b f h ∧ ∀ row : List (List Int), row.getLastD [] = b → Sm K ((subGo (n + 1) a b row f h).getLastD []) := by
  refine ⟨fun h1 => ⟨⟨la, lb, hb, sa, sb, bf, bh, h0, f0⟩, fun hp => ⟨premN_short hb, (next h1 hp).1⟩⟩, fun row hr => ?_⟩
  by_cases h1 : 1 < b.length
  · by_cases hp : premN a b = []
    · rw [subGo_end hp, hr]
      exact sK.mono hK
    · rw [subGo_go h1 hp]
      exact (next h1 hp).2 _ (by simp)
  · rw [subGo_stop h1, hr]
    exact sK.mono hK
theorem fin_short {n : Nat} {a b : List Int} {f h : Int} {K : Nat} (lb : b.length ≤ 1) (sK : Sm K b) : Fine n a b f h ∧ ∀ row : List (List Int), row.getLastD [] = b → Sm K ((subGo n a b row f h).getLastD []) := by
  refine ⟨?_, fun row hr => by rw [subGo_short lb, hr]; exact sK⟩
  cases n with
  | zero => exact lb
  | succ n => intro h1; omega
theorem fin2 {n : Nat} {a b : List Int} {f h : Int} {ka kb K : Nat} (la : a.length ≤ 4) (lb : b.length ≤ a.length) (l2 : b.length = 2) (hb : Nz b) (sa : Sm ka a) (sb : Sm kb b) (h1 : ka ≤ 1000000) (h2 : kb ≤ 1000000) (bf : Builtin.Int.intBits f ≤ 1000000) (bh : Builtin.Int.intBits h ≤ 1000000) (h0 : h ≠ 0) (f0 : f ≠ 0)
    (hK : kb ≤ K) (hK2 : ka + (a.length - 1) * (kb + 1) ≤ K) : Fine (n + 1) a b f h ∧ ∀ row : List (List Int), row.getLastD [] = b → Sm K ((subGo (n + 1) a b row f h).getLastD []) := by
  refine fin_step (by omega) lb hb (sa.mono h1) (sb.mono h2) sb hK bf bh h0 f0 fun _ _ => ?_
  have hs := premN_short (a := a) hb
  refine fin_short (by rw [divN_len]; omega) ?_
  refine Sm.mono (premN_sm hb sa sb).div ?_
  have e : a.length + 1 - b.length = a.length - 1 := by omega
  rw [e]
  exact hK2
theorem nextH_0 (f h : Int) : nextH f 0 h = h := rfl
theorem nextH_1 (f h : Int) : nextH f 1 h = f := by simp [nextH, Int.fdiv_one, pw1]
theorem fin3 {n : Nat} {a b : List Int} {f h : Int} {ka kb K : Nat} (la : a.length ≤ 4) (lb : b.length ≤ a.length) (l3 : b.length = 3) (hb : Nz b) (ha : Lead a) (sa : Sm ka a) (sb : Sm kb b) (h1 : ka ≤ 60000) (h2 : kb ≤ 60000) (bf : Builtin.Int.intBits f ≤ 1000000) (bh : Builtin.Int.intBits h ≤ 1000000) (h0 : h ≠ 0) (f0 : f ≠ 0) (hx : Exact (n + 2) a b f h)
    (hK : kb ≤ K) (hK2 : ka + (a.length - 2) * (kb + 1) ≤ K) (hK3 : kb + 2 * (ka + (a.length - 2) * (kb + 1) + 1) ≤ K) : Fine (n + 2) a b f h ∧ ∀ row : List (List Int), row.getLastD [] = b → Sm K ((subGo (n + 2) a b row f h).getLastD []) := by
  refine fin_step (by omega) lb hb (sa.mono (by omega)) (sb.mono (by omega)) sb hK bf bh h0 f0 fun g1 g2 => ?_
  have hs := premN_short (a := a) hb
  obtain ⟨x1, x2, _⟩ := hx g1 g2
  have hp : Nz (premN a b) := (premN_lead a b ha).nz g2
  have sp := (premN_sm hb sa sb).div (k := f * h ^ (a.length - b.length))
  have e : a.length + 1 - b.length = a.length - 2 := by omega
  rw [e] at sp
  have hq := divN_nz hp x2
  have hl := divN_len (premN a b) (f * h ^ (a.length - b.length))
  generalize divN (premN a b) (f * h ^ (a.length - b.length)) = q at *
  have hm : (a.length - 2) * (kb + 1) ≤ 2 * (kb + 1) := Nat.mul_le_mul_right _ (by omega)
  by_cases h5 : q.length ≤ 1
  · exact fin_short h5 (sp.mono hK2)
  · have hst : a.length - b.length = 0 ∨ a.length - b.length = 1 := by omega
    have hb1 := sb.last
    refine fin2 (by omega) (by omega) (by omega) hq sb sp (by omega) (by omega) (Nat.le_trans hb1 (by omega)) ?_ ?_ hb hK2 (by rw [l3]; exact hK3)
    · rcases hst with e | e <;> rw [e]
      · rw [nextH_0]; exact bh
      · rw [nextH_1]; exact Nat.le_trans hb1 (by omega)
    · rcases hst with e | e <;> rw [e]
      · rw [nextH_0]; exact h0
      · rw [nextH_1]; exact hb
theorem fin4 {n : Nat} {a b : List Int} {k K : Nat} (la : a.length = 4) (l4 : b.length = 4) (hb : Nz b) (ha : Lead a) (sa : Sm k a) (sb : Sm k b) (h1 : k ≤ 20000) (hx : Exact (n + 3) a b 1 1) (hK : 12 * k + 20 ≤ K) :
    Fine (n + 3) a b 1 1 ∧ ∀ row : List (List Int), row.getLastD [] = b → Sm K ((subGo (n + 3) a b row 1 1).getLastD []) := by
  refine fin_step (by omega) (by omega) hb (sa.mono (by omega)) (sb.mono (by omega)) sb (by omega) (by decide) (by decide) (by decide) (by decide) fun g1 g2 => ?_
  have hs := premN_short (a := a) hb
  obtain ⟨x1, x2, x3⟩ := hx g1 g2
  have hp : Nz (premN a b) := (premN_lead a b ha).nz g2
  have sp := (premN_sm hb sa sb).div (k := 1 * 1 ^ (a.length - b.length))
  have e : a.length + 1 - b.length = 1 := by omega
  rw [e] at sp
  have hq := divN_nz hp x2
  have hl := divN_len (premN a b) (1 * 1 ^ (a.length - b.length))
  generalize divN (premN a b) (1 * 1 ^ (a.length - b.length)) = q at *
  have hst : a.length - b.length = 0 := by omega
  rw [hst, nextH_0] at x3 ⊢
  have hb1 := sb.last
  by_cases h5 : q.length ≤ 1
  · exact fin_short h5 (sp.mono (by omega))
  · by_cases h6 : q.length = 2
    · exact fin2 (by omega) (by omega) h6 hq sb sp (by omega) (by omega) (Nat.le_trans hb1 (by omega)) (by decide) (by decide) hb (by omega) (by rw [l4]; omega)
    · exact fin3 (by omega) (by omega) (by omega) hq hb.lead sb sp (by omega) (by omega) (Nat.le_trans hb1 (by omega)) (by decide) (by decide) hb x3 (by omega) (by rw [l4]; omega) (by rw [l4]; omega)
/-- a row's run is fine, and its last is small -/
theorem fineO4 {a b : List Int} {k : Nat} (ha : Nz a) (hb : Nz b) (hl : b.length ≤ a.length) (h4 : a.length ≤ 4) (sa : Sm k a) (sb : Sm k b) (hk : k ≤ 20000) : FineO a b ∧ Sm (12 * k + 20) ((subresO a b).getLastD []) := by
  have hx := exact4 ha hb hl h4
  unfold FineO subresO
  unfold ExactO at hx
  have hb1 := List.length_pos_iff.mpr hb.ne
  have hc : b.length = 1 ∨ b.length = 2 ∨ b.length = 3 ∨ b.length = 4 := by omega
  rcases hc with e | e | e | e
  · have := fin_short (n := b.length) (a := a) (f := 1) (h := 1) (K := 12 * k + 20) (by omega : b.length ≤ 1) (sb.mono (by omega))
    exact ⟨this.1, this.2 _ rfl⟩
  · rw [e]
    have hm : (a.length - 1) * (k + 1) ≤ 3 * (k + 1) := Nat.mul_le_mul_right _ (by omega)
    have := fin2 (n := 1) (f := 1) (h := 1) (K := 12 * k + 20) h4 hl e hb sa sb (by omega) (by omega) (by decide) (by decide) (by decide) (by decide) (by omega) (by omega)
    exact ⟨this.1, this.2 _ rfl⟩
  · rw [e] at hx ⊢
    have hm : (a.length - 2) * (k + 1) ≤ 2 * (k + 1) := Nat.mul_le_mul_right _ (by omega)
    have := fin3 (n := 1) (f := 1) (h := 1) (K := 12 * k + 20) h4 hl e hb ha.lead sa sb (by omega) (by omega) (by decide) (by decide) (by decide) (by decide) hx (by omega) (by omega) (by omega)
    exact ⟨this.1, this.2 _ rfl⟩
  · rw [e] at hx ⊢
    have := fin4 (n := 1) (K := 12 * k + 20) (by omega) e hb ha.lead sa sb hk hx (by omega)
    exact ⟨this.1, this.2 _ rfl⟩
theorem fineN4 {a b : List Int} {k : Nat} (ha : Nz a) (hb : Nz b) (h4 : a.length ≤ 4) (h4' : b.length ≤ 4) (sa : Sm k a) (sb : Sm k b) (hk : k ≤ 20000) : FineN a b ∧ Sm (12 * k + 20) ((subresN a b).getLastD []) := by
  unfold FineN subresN
  split
  · exact fineO4 hb ha (by omega) h4' sb sa hk
  · exact fineO4 ha hb (by omega) h4 sa sb hk
end Mine
end

section
open PySem PySem.W PySem.Calls PySem.Spec PyProof.Rows
namespace Mine
/-! the law's product is the product -/
theorem ev_addAt (t : Int) (k : Int) : ∀ (f : List Int) (i : Nat), i < f.length → ev (addAt f i k) t = ev f t + k * t ^ i
  | [], i, h => absurd h (Nat.not_lt_zero _)
  | x :: r, 0, _ => by
    unfold addAt
    simp only [List.set_cons_zero, List.getD_cons_zero, ev_cons]
    simp
    omega
  | x :: r, i + 1, h => by
    have ih := ev_addAt t k r i (by simpa using h)
    unfold addAt at ih ⊢
    simp only [List.set_cons_succ, List.getD_cons_succ, ev_cons]
    rw [ih, Int.pow_succ]
    grind
theorem ev_prodIn (t x : Int) (i : Nat) : ∀ (ms : List Int) (j : Nat) (f : List Int), i + j + ms.length ≤ f.length → ev (prodIn x i ms j f) t = ev f t + x * t ^ (i + j) * ev ms t
  | [], j, f, _ => by simp [prodIn, ev]
  | y :: r, j, f, h => by
    simp only [List.length_cons] at h
    rw [prodIn, ev_prodIn t x i r (j + 1) (addAt f (i + j) (x * y)) (by rw [addAt_len]; omega), ev_addAt t _ f (i + j) (by omega), ev_cons]
    have e : i + (j + 1) = (i + j) + 1 := by omega
    rw [e, Int.pow_succ]
    grind
theorem ev_prodOut (t : Int) (ms : List Int) : ∀ (ns : List Int) (i : Nat) (f : List Int), i + ns.length + ms.length ≤ f.length + 1 → ev (prodOut ms ns i f) t = ev f t + t ^ i * (ev ns t * ev ms t)
  | [], i, f, _ => by simp [prodOut, ev]
  | x :: r, i, f, h => by
    simp only [List.length_cons] at h
    rw [prodOut, ev_prodOut t ms r (i + 1) (prodIn x i ms 0 f) (by rw [prodIn_len]; omega), ev_prodIn t x i ms 0 f (by omega), ev_cons, Int.pow_succ, Nat.add_zero]
    grind
theorem ev_product {ns ms : List Int} (hn : ns ≠ []) (t : Int) : ev (productN ns ms) t = ev ns t * ev ms t := by
  have := List.length_pos_iff.mpr hn
  unfold productN
  rw [ev_prodOut t ms ns 0 _ (by rw [List.length_replicate]; omega), ev_zeros]
  simp
theorem product_mul {p q : List Int} (hp : Nz p) (hq : Nz q) : productN p q = mulN p q := by
  have h1 : (productN p q).length = (mulN p q).length := by rw [productN_len, mulN_len hp hq]
  apply List.ext_getElem h1
  intro i hi hj
  have := ev_coef (p := productN p q) (q := mulN p q) (fun t _ => by rw [ev_product hp.ne, ev_mul]) i
  rw [List.getD_eq_getElem?_getD, List.getD_eq_getElem?_getD, List.getElem?_eq_getElem hi, List.getElem?_eq_getElem hj] at this
  exact this
theorem mulN_sm {m n : Nat} : ∀ {p q : List Int}, Sm m p → Sm n q → Sm (m + n + p.length) (mulN p q)
  | [], _, _, _ => fun x hx => nomatch hx
  | x :: r, q, hp, hq => by
    have ih := mulN_sm (p := r) (q := q) (fun y hy => hp y (.tail _ hy)) hq
    have h1 : Sm (m + n + r.length) (q.map fun y => y * x) := by
      intro z hz
      obtain ⟨y, hy, rfl⟩ := List.mem_map.mp hz
      have := intBits_mul_le (hq y hy) (hp x (.head _))
      omega
    have h2 : Sm (m + n + r.length) (0 :: mulN r q) := by
      intro z hz
      rcases List.mem_cons.mp hz with rfl | hz
      · exact Nat.zero_le _
      · exact ih z hz
    exact Sm.addR h1 h2
theorem addR_dvd {d : Int} : ∀ {p q : List Int}, (∀ x ∈ p, d ∣ x) → (∀ x ∈ q, d ∣ x) → ∀ x ∈ addR p q, d ∣ x
  | [], _, _, hq => hq
  | _ :: _, [], hp, _ => hp
  | x :: r, y :: s, hp, hq => by
    intro z hz
    rcases List.mem_cons.mp hz with rfl | hz
    · exact Int.dvd_add (hp x (.head _)) (hq y (.head _))
    · exact addR_dvd (fun u hu => hp u (.tail _ hu)) (fun u hu => hq u (.tail _ hu)) z hz
theorem mulN_dvd {d : Int} : ∀ {p q : List Int}, (∀ x ∈ q, d ∣ x) → ∀ x ∈ mulN p q, d ∣ x
  | [], _, _ => fun x hx => nomatch hx
  | x :: r, q, hq => by
    refine addR_dvd ?_ ?_
    · intro z hz
      obtain ⟨y, hy, rfl⟩ := List.mem_map.mp hz
      exact Int.dvd_trans (hq y hy) (Int.dvd_mul_right y x)
    · intro z hz
      rcases List.mem_cons.mp hz with rfl | hz
      · exact Int.dvd_zero d
      · exact mulN_dvd hq z hz
theorem D.mul {p q : List Int} : D q (mulN p q) := ⟨1, by decide, p, fun t => by rw [ev_mul]; grind⟩
theorem contN_mul (p q : List Int) : contN q ∣ contN (mulN p q) := contN_great (mulN_dvd fun _ h => contN_dvd h)
/-! the law's division leaves nothing of a multiple -/
theorem left_step {a b : List Int} (hb : b ≠ []) (hl : b.length ≤ a.length) :
    trimN ((List.range a.length).map fun i => a.getD i 0 * b.getLastD 0 - (if a.length - b.length ≤ i then a.getLastD 0 * b.getD (i - (a.length - b.length)) 0 else 0)) = pstep b (b.getLastD 0) a := by
  rw [← trimN_of_lead (pstep_lead b (b.getLastD 0) a)]
  refine trim_ext fun i => ?_
  rw [getD_map_range, pstep_get]
  have hb1 := List.length_pos_iff.mpr hb
  by_cases h : i < a.length
  · rw [if_pos h]
    by_cases h2 : i < a.length - b.length
    · rw [if_neg (by omega), if_pos h2]
    · rw [if_pos (by omega), if_neg h2, Int.mul_comm (a.getLastD 0)]
  · have h3 : a.getD i 0 = 0 := by rw [List.getD_eq_getElem?_getD, List.getElem?_eq_none (by omega)]; rfl
    have h4 : b.getD (i - (a.length - b.length)) 0 = 0 := by rw [List.getD_eq_getElem?_getD, List.getElem?_eq_none (by omega)]; rfl
    rw [if_neg h, h3, h4]
    simp
theorem leftN_nil {b : List Int} (hb : Nz b) : ∀ (n : Nat) (a : List Int), a.length ≤ n → Lead a → D b a → leftN n a b = []
  | 0, a, hn, _, _ => List.eq_nil_of_length_eq_zero (by show a.length = 0; omega)
  | n + 1, a, hn, ha, hD => by
    unfold leftN
    split
    · rename_i hl
      rw [left_step hb.ne hl]
      have h1 := pstep_len hb.ne rfl hb hl
      refine leftN_nil hb n _ (by omega) (pstep_lead _ _ _) ?_
      exact D.comb (k := 1) (u := [b.getLastD 0]) (v := raiseN (scaleN [1] (-a.getLastD 0)) (a.length - b.length)) hD (D.refl b) (by decide) fun t => by
        rw [ev_pstep, ev_raise, ev_scale]
        simp only [ev_cons, ev_nil]
        grind
    · exact D.short hb ha hD (by omega)
/-! a common divisor of many -/
def ComG (g : List Int) (rows : List (List Int)) : Prop := Nz g ∧ 0 < g.getLastD 0 ∧ (∀ d : Int, d ∣ contN g ↔ ∀ p ∈ rows, d ∣ contN p) ∧ ∀ c, Nz c → (D c g ↔ ∀ p ∈ rows, D c p)
theorem ComG.uniq {g g' : List Int} {rows rows' : List (List Int)} (h : ComG g rows) (h' : ComG g' rows') (hm : ∀ p, p ∈ rows ↔ p ∈ rows') : g = g' := by
  have e1 : contN g ∣ contN g' := (h'.2.2.1 _).mpr fun p hp => (h.2.2.1 _).mp (Int.dvd_refl _) p ((hm p).mpr hp)
  have e2 : contN g' ∣ contN g := (h.2.2.1 _).mpr fun p hp => (h'.2.2.1 _).mp (Int.dvd_refl _) p ((hm p).mp hp)
  have e3 : contN g = contN g' := by
    have := Nat.dvd_antisymm (Int.natAbs_dvd_natAbs.mpr e1) (Int.natAbs_dvd_natAbs.mpr e2)
    have := contN_nonneg g
    have := contN_nonneg g'
    omega
  have h1 : D g g' := (h'.2.2.2 g h.1).mpr fun p hp => (h.2.2.2 g h.1).mp (D.refl g) p ((hm p).mpr hp)
  have h2 : D g' g := (h.2.2.2 g' h'.1).mpr fun p hp => (h'.2.2.2 g' h'.1).mp (D.refl g') p ((hm p).mp hp)
  obtain ⟨k, m, hk, hm, e⟩ := D.both h.1 h'.1 h1 h2
  have e5 := prim_same h'.1 h.1 hk hm e
  rw [← pos_prim h.1 h.2.1, ← pos_prim h'.1 h'.2.1, e5, e3]
theorem IsG.com {g a b : List Int} (h : IsG g a b) : ComG g [a, b] := by
  refine ⟨h.1, h.2.1, fun d => ?_, fun c hc => ?_⟩
  · rw [h.2.2.1, Int.dvd_coe_gcd_iff]
    simp
  · rw [h.2.2.2 c hc]
    simp
theorem ComG.step {f g p : List Int} {rows : List (List Int)} (h : ComG f rows) (hg : IsG g f p) : ComG g (rows ++ [p]) := by
  refine ⟨hg.1, hg.2.1, fun d => ?_, fun c hc => ?_⟩
  · rw [hg.2.2.1, Int.dvd_coe_gcd_iff, h.2.2.1 d]
    simp [List.mem_append, or_imp, forall_and]
  · rw [hg.2.2.2 c hc, h.2.2.2 c hc]
    simp [List.mem_append, or_imp, forall_and]
theorem ComG.start {g p : List Int} {rows : List (List Int)} (h0 : ∀ q ∈ rows, q = []) (hg : IsG g [] p) : ComG g (rows ++ [p]) := by
  refine ⟨hg.1, hg.2.1, fun d => ?_, fun c hc => ?_⟩
  · rw [hg.2.2.1, Int.dvd_coe_gcd_iff]
    constructor
    · rintro ⟨_, h⟩ q hq
      rcases List.mem_append.mp hq with hq | hq
      · rw [h0 q hq]; exact Int.dvd_zero d
      · rw [List.mem_singleton.mp hq]; exact h
    · intro h
      exact ⟨Int.dvd_zero d, h p (by simp)⟩
  · rw [hg.2.2.2 c hc]
    constructor
    · rintro ⟨_, h⟩ q hq
      rcases List.mem_append.mp hq with hq | hq
      · rw [h0 q hq]; exact D.nil c
      · rw [List.mem_singleton.mp hq]; exact h
    · intro h
      exact ⟨D.nil c, h p (by simp)⟩
/-- more rows, all of them multiples -/
theorem ComG.more {g : List Int} {rows E : List (List Int)} (h : ComG g rows) (hE : ∀ e ∈ E, contN g ∣ contN e ∧ D g e) : ComG g (rows ++ E) := by
  refine ⟨h.1, h.2.1, fun d => ?_, fun c hc => ?_⟩
  · constructor
    · intro hd q hq
      rcases List.mem_append.mp hq with hq | hq
      · exact (h.2.2.1 d).mp hd q hq
      · exact Int.dvd_trans hd (hE q hq).1
    · intro hd
      exact (h.2.2.1 d).mpr fun q hq => hd q (List.mem_append.mpr (.inl hq))
  · constructor
    · intro hd q hq
      rcases List.mem_append.mp hq with hq | hq
      · exact (h.2.2.2 c hc).mp hd q hq
      · exact D.trans hd (hE q hq).2
    · intro hd
      exact (h.2.2.2 c hc).mpr fun q hq => hd q (List.mem_append.mpr (.inl hq))
end Mine
end

section
open PySem PySem.W PySem.Calls PySem.Spec PyProof.Rows
namespace Mine
theorem gcd_bits {a b : List Int} {k : Nat} (ha : Nz a) (sa : Sm k a) : Builtin.Int.intBits (Int.gcd (contN a) (contN b) : Int) ≤ k := by
  refine intBits_le_of_natAbs ?_ (contN_bits sa)
  have h0 := contN_ne ha
  have := Nat.le_of_dvd (Int.natAbs_pos.mpr h0) (Int.natAbs_dvd_natAbs.mpr (Int.gcd_dvd_left (contN a) (contN b)))
  simpa using this
theorem zg_sm {a b : List Int} {k m : Nat} (ha : Nz a) (hb : Nz b) (sa : Sm k a) (sL : Sm m (zlastN a b)) : Sm (m + k) (zgcdN a b) := by
  have hg := gcd_bits (b := b) ha sa
  unfold zgcdN
  rw [if_neg ha.ne, if_neg hb.ne]
  split
  · exact Sm.scale sL.prim hg
  · intro x hx
    rw [List.mem_singleton.mp hx]
    omega
theorem gfine_of {a b : List Int} {k : Nat} (ha : Nz a) (hb : Nz b) (la : a.length ≤ 8) (lb : b.length ≤ 8) (sa : Sm k a) (sb : Sm k b) (hk : k ≤ 60000000) (hx : ExactN (primN a) (primN b)) (hf : FineN (primN a) (primN b)) (hs : Sm 60000000 (zlastN a b)) : GFine a b := by
  obtain ⟨i1, i2, i3, _⟩ := subresN_last (primN_nz ha) (primN_nz hb) hx
  refine ⟨la, lb, sa.mono hk, sb.mono hk, fun _ => contN_ne ha, fun _ => contN_ne hb, fun _ _ => ⟨hf, contN_ne i1, ?_, hs⟩⟩
  rw [primN_len] at i2
  exact Nat.le_trans i2 la
/-- two of degree at most 3 -/
theorem pair4 {a b : List Int} {k : Nat} (ha : Nz a) (hb : Nz b) (la : a.length ≤ 4) (lb : b.length ≤ 4) (sa : Sm k a) (sb : Sm k b) (hk : k ≤ 20000) : GFine a b ∧ IsG (zgcdN a b) a b ∧ Sm (13 * k + 20) (zgcdN a b) := by
  have hx := exactN4 (primN_nz ha) (primN_nz hb) (by rw [primN_len]; exact la) (by rw [primN_len]; exact lb)
  have hf := fineN4 (primN_nz ha) (primN_nz hb) (by rw [primN_len]; exact la) (by rw [primN_len]; exact lb) sa.prim sb.prim hk
  refine ⟨gfine_of ha hb (by omega) (by omega) sa sb (by omega) hx hf.1 (hf.2.mono (by omega)), zgcdN_isG ha hb hx, (zg_sm ha hb sa hf.2).mono (by omega)⟩
theorem fine_div {a g : List Int} {k : Nat} (ha : Nz a) (hg : Nz g) (la : a.length ≤ 8) (hl : g.length ≤ a.length) (hD : D g a) (sa : Sm k a) (sg : Sm k g) (hk : k ≤ 1000000) : ExactO a g ∧ FineO a g ∧ Sm k ((subresO a g).getLastD []) := by
  have hp : premN a g = [] := (prem_nil_iff ha.lead hg).mpr hD
  unfold ExactO FineO subresO
  obtain ⟨n, e⟩ : ∃ n, g.length = n + 1 := ⟨g.length - 1, by have := List.length_pos_iff.mpr hg.ne; omega⟩
  rw [e]
  have := fin_step (n := n) (f := 1) (h := 1) la hl hg (sa.mono hk) (sg.mono hk) sg (Nat.le_refl k) (by decide) (by decide) (by decide) (by decide) (fun _ h => absurd hp h)
  exact ⟨exact_end hp, this.1, this.2 _ rfl⟩
/-- a multiple against its divisor -/
theorem pairD {a g : List Int} {k : Nat} (ha : Nz a) (hg : Nz g) (la : a.length ≤ 8) (hl : g.length < a.length) (hD : D g a) (sa : Sm k a) (sg : Sm k g) (hk : k ≤ 20000) :
    (GFine a g ∧ IsG (zgcdN a g) a g ∧ Sm (13 * k + 20) (zgcdN a g)) ∧ (GFine g a ∧ IsG (zgcdN g a) g a ∧ Sm (13 * k + 20) (zgcdN g a)) := by
  have hD2 : D (primN g) (primN a) := (D.prim_iff ha).mpr (D.trans ((D.prim_iff hg).mp (D.refl _)) hD)
  have hl' : (primN g).length < (primN a).length := by rw [primN_len, primN_len]; exact hl
  obtain ⟨x1, x2, x3⟩ := fine_div (primN_nz ha) (primN_nz hg) (by rw [primN_len]; exact la) (Nat.le_of_lt hl') hD2 sa.prim sg.prim (by omega)
  have ex1 : ExactN (primN a) (primN g) := by unfold ExactN; rw [if_neg (by omega)]; exact x1
  have ex2 : ExactN (primN g) (primN a) := by unfold ExactN; rw [if_pos hl']; exact x1
  have fi1 : FineN (primN a) (primN g) := by unfold FineN; rw [if_neg (by omega)]; exact x2
  have fi2 : FineN (primN g) (primN a) := by unfold FineN; rw [if_pos hl']; exact x2
  have s1 : Sm k (zlastN a g) := by unfold zlastN subresN; rw [if_neg (by omega)]; exact x3
  have s2 : Sm k (zlastN g a) := by unfold zlastN subresN; rw [if_pos hl']; exact x3
  exact ⟨⟨gfine_of ha hg la (by omega) sa sg (by omega) ex1 fi1 (s1.mono (by omega)), zgcdN_isG ha hg ex1, (zg_sm ha hg sa s1).mono (by omega)⟩,
    ⟨gfine_of hg ha (by omega) la sg sa (by omega) ex2 fi2 (s2.mono (by omega)), zgcdN_isG hg ha ex2, (zg_sm hg ha sg s2).mono (by omega)⟩⟩
/-- against nothing -/
theorem pair0 {a : List Int} {k : Nat} (ha : Nz a) (la : a.length ≤ 8) (sa : Sm k a) (hk : k ≤ 20000) : GFine a [] ∧ GFine [] a ∧ Sm (2 * k) (normN a) ∧ (normN a).length = a.length := by
  have s0 : Sm 60000000 ([] : List Int) := fun x hx => nomatch hx
  refine ⟨⟨la, by simp, sa.mono (by omega), s0, fun _ => contN_ne ha, fun h => absurd rfl h, fun _ h => absurd rfl h⟩, ⟨by simp, la, s0, sa.mono (by omega), fun h => absurd rfl h, fun _ => contN_ne ha, fun h => absurd rfl h⟩, ?_, ?_⟩
  · exact (Sm.scale sa.prim (contN_bits sa)).mono (by omega)
  · unfold normN
    rw [scaleN_len' (contN_ne ha), primN_len]
theorem normN_nil : normN [] = [] := by unfold normN scaleN primN; simp
theorem gfine_nil : GFine [] [] := by
  have s0 : Sm 60000000 ([] : List Int) := fun x hx => nomatch hx
  exact ⟨by simp, by simp, s0, s0, fun h => absurd rfl h, fun h => absurd rfl h, fun h => absurd rfl h⟩
/-! all rows short -/
theorem subGo_all {M : Nat} : ∀ (n : Nat) (a b : List Int) (row : List (List Int)) (f h : Int), a.length ≤ M → b.length ≤ M → (∀ r ∈ row, r.length ≤ M) → (∀ r ∈ subGo n a b row f h, r.length ≤ M) ∧ (subGo n a b row f h).length ≤ row.length + n
  | 0, _, _, _, _, _, _, _, hr => ⟨hr, Nat.le_refl _⟩
  | n + 1, a, b, row, f, h, ha, hb, hr => by
    unfold subGo
    split
    · split
      · exact ⟨hr, by omega⟩
      · have hl : (divN (premN a b) (f * h ^ (a.length - b.length))).length ≤ M := by rw [divN_len]; exact Nat.le_trans (premN_len a b) ha
        have := subGo_all n b (divN (premN a b) (f * h ^ (a.length - b.length))) (row ++ [divN (premN a b) (f * h ^ (a.length - b.length))]) (b.getLastD 0) (nextH (b.getLastD 0) (a.length - b.length) h) hb hl (by
          intro r hr2
          rcases List.mem_append.mp hr2 with hr2 | hr2
          · exact hr r hr2
          · rw [List.mem_singleton.mp hr2]; exact hl)
        refine ⟨this.1, ?_⟩
        have h2 := this.2
        rw [List.length_append, List.length_singleton] at h2
        omega
    · exact ⟨hr, by omega⟩
theorem subresN_all {M : Nat} {a b : List Int} (ha : a.length ≤ M) (hb : b.length ≤ M) : (∀ r ∈ subresN a b, r.length ≤ M) ∧ (subresN a b).length ≤ 2 + M := by
  unfold subresN subresO
  split
  · have := subGo_all a.length b a [b, a] 1 1 hb ha (by intro r hr; simp at hr; rcases hr with rfl | rfl <;> assumption)
    exact ⟨this.1, Nat.le_trans this.2 (by simp; omega)⟩
  · have := subGo_all b.length a b [a, b] 1 1 ha hb (by intro r hr; simp at hr; rcases hr with rfl | rfl <;> assumption)
    exact ⟨this.1, Nat.le_trans this.2 (by simp; omega)⟩
end Mine
end

section
open PySem PySem.W PySem.Calls PySem.Spec PyProof.Rows
namespace Mine
/-- what the law draws -/
structure Drawn (S A B : List Int) : Prop where
  nS : Nz S
  nA : Nz A
  nB : Nz B
  lA : 2 ≤ A.length ∧ A.length ≤ 4
  lB : 2 ≤ B.length ∧ B.length ≤ 4
  dA : D S A
  dB : D S B
  sA : Sm 10 A
  sB : Sm 10 B
theorem D.flip {c x : List Int} (hc : Nz c) (hx : Nz x) (h : D c x) (hl : c.length = x.length) : D x c := by
  obtain ⟨k, hk, q, hq, e⟩ := D.nz_eq hc hx h
  have l3 := congrArg List.length e
  rw [mulN_len hc hq, List.length_map] at l3
  have hc1 := List.length_pos_iff.mpr hc.ne
  obtain ⟨m, rfl⟩ : ∃ m, q = [m] := List.length_eq_one_iff.mp (by have := List.length_pos_iff.mpr hq.ne; omega)
  have hm : m ≠ 0 := by simpa [Nz] using hq
  refine D.of_eq (k := m) (m := k) hm (D.refl x) fun t => ?_
  have h2 := congrArg (fun p => ev p t) e
  simp only [ev_map, ev_mul, ev_cons, ev_nil] at h2
  grind
theorem ComG.self {F : List Int} (h : Nz F) (hp : 0 < F.getLastD 0) : ComG F [F] := ⟨h, hp, fun d => by simp, fun c _ => by simp⟩
theorem GAll_append : ∀ (r s : List (List Int)) (f : List Int), GAll f (r ++ s) ↔ GAll f r ∧ GAll (r.foldl zgcdN f) s
  | [], s, f => by simp [GAll]
  | p :: r, s, f => by
    rw [List.cons_append, GAll, GAll, GAll_append r s (zgcdN f p), List.foldl_cons, and_assoc]
section
variable {S A B : List Int} (h : Drawn S A B)
include h
theorem Drawn.pair : GFine A B ∧ IsG (zgcdN A B) A B ∧ Sm 150 (zgcdN A B) := pair4 h.nA h.nB h.lA.2 h.lB.2 h.sA h.sB (by decide)
theorem Drawn.pair' : GFine B A ∧ IsG (zgcdN B A) B A ∧ Sm 150 (zgcdN B A) := pair4 h.nB h.nA h.lB.2 h.lA.2 h.sB h.sA (by decide)
theorem Drawn.fine : FineN A B := (fineN4 h.nA h.nB h.lA.2 h.lB.2 h.sA h.sB (by decide)).1
theorem Drawn.swap : zgcdN B A = zgcdN A B := h.pair'.2.1.uniq h.pair.2.1 (Int.gcd_comm _ _) fun _ _ => And.comm
theorem Drawn.row1 (hl : B.length ≤ A.length) : RowOk A B (subresN A B) := by
  have := (row_ok4 h.nA h.nB h.lB.1 hl h.lA.2).1
  unfold subresN
  rw [if_neg (by omega)]
  exact this
theorem Drawn.row2 (hl : A.length < B.length) : RowOk B A (subresN A B) := by
  have := (row_ok4 h.nB h.nA h.lA.1 (by omega) h.lB.2).1
  unfold subresN
  rw [if_pos hl]
  exact this
theorem Drawn.rows : (∀ i : Nat, ((subresN A B).getD i []).length ≤ 4) ∧ (subresN A B).length ≤ 6 := by
  have := subresN_all (M := 4) h.lA.2 h.lB.2
  refine ⟨fun i => ?_, this.2⟩
  rw [List.getD_eq_getElem?_getD]
  by_cases hi : i < (subresN A B).length
  · rw [List.getElem?_eq_getElem hi]
    exact this.1 _ (List.getElem_mem hi)
  · rw [List.getElem?_eq_none (by omega)]
    simp
theorem Drawn.found : Nz (zgcdN A B) ∧ 0 < (zgcdN A B).getLastD 0 ∧ (zgcdN A B).length ≤ A.length ∧ (zgcdN A B).length ≤ B.length ∧ S.length ≤ (zgcdN A B).length := by
  obtain ⟨_, g, _⟩ := h.pair
  exact ⟨g.1, g.2.1, D.len g.1 h.nA g.left, D.len g.1 h.nB g.right, D.len h.nS g.1 ((g.2.2.2 S h.nS).mpr ⟨h.dA, h.dB⟩)⟩
theorem Drawn.last : Nz ((subresN A B).getLastD []) ∧ ((subresN A B).getLastD []).length = (zgcdN A B).length ∧ primN ((subresN A B).getLastD []) = primN (zgcdN A B) ∧ Sm 1000 ((subresN A B).getLastD []) := by
  obtain ⟨_, g, _⟩ := h.pair
  obtain ⟨i1, _, _, i4⟩ := subresN_last h.nA h.nB (exactN4 h.nA h.nB h.lA.2 h.lB.2)
  have s := (fineN4 h.nA h.nB h.lA.2 h.lB.2 h.sA h.sB (by decide)).2
  have d1 : D (zgcdN A B) ((subresN A B).getLastD []) := (i4 _ g.1).mpr ⟨g.left, g.right⟩
  have d2 : D ((subresN A B).getLastD []) (zgcdN A B) := (g.2.2.2 _ i1).mpr ((i4 _ i1).mp (D.refl _))
  obtain ⟨k, m, hk, hm, e⟩ := D.both g.1 i1 d1 d2
  exact ⟨i1, by have := D.len g.1 i1 d1; have := D.len i1 g.1 d2; omega, prim_same i1 g.1 hk hm e, s.mono (by decide)⟩
theorem Drawn.com : ComG (zgcdN A B) [A, B] := h.pair.2.1.com
/-- a multiple drawn beside -/
theorem Drawn.mult {p : List Int} (hp : Nz p) (lp : p.length ≤ 2) (sp : Sm 2 p) : Nz (mulN p (zgcdN A B)) ∧ (mulN p (zgcdN A B)).length ≤ (zgcdN A B).length + 1 ∧ Sm 160 (mulN p (zgcdN A B)) ∧ D (zgcdN A B) (mulN p (zgcdN A B)) ∧ contN (zgcdN A B) ∣ contN (mulN p (zgcdN A B)) := by
  have hF := h.found
  refine ⟨mulN_nz hp hF.1, ?_, (mulN_sm sp h.pair.2.2).mono (by omega), D.mul, contN_mul _ _⟩
  rw [mulN_len hp hF.1]
  omega
/-- what is left of found, met with a multiple -/
theorem Drawn.again {p : List Int} (hp : Nz p) (lp : p.length ≤ 2) (sp : Sm 2 p) : GFine (zgcdN A B) (mulN p (zgcdN A B)) ∧ zgcdN (zgcdN A B) (mulN p (zgcdN A B)) = zgcdN A B := by
  have hF := h.found
  obtain ⟨m1, m2, m3, m4, m5⟩ := h.mult hp lp sp
  have sF : Sm 160 (zgcdN A B) := h.pair.2.2.mono (by decide)
  have hl := h.lA
  have key : GFine (zgcdN A B) (mulN p (zgcdN A B)) ∧ IsG (zgcdN (zgcdN A B) (mulN p (zgcdN A B))) (zgcdN A B) (mulN p (zgcdN A B)) := by
    by_cases h4 : (mulN p (zgcdN A B)).length ≤ 4
    · have := pair4 hF.1 m1 (by omega) h4 sF m3 (by decide)
      exact ⟨this.1, this.2.1⟩
    · have := (pairD m1 hF.1 (by omega) (by omega) m4 m3 sF (by decide)).2
      exact ⟨this.1, this.2.1⟩
  refine ⟨key.1, ?_⟩
  refine ComG.uniq key.2.com ((ComG.self hF.1 hF.2.1).more (E := [mulN p (zgcdN A B)]) ?_) fun _ => Iff.rfl
  intro e he
  rw [List.mem_singleton.mp he]
  exact ⟨m5, m4⟩
theorem Drawn.again0 : GFine (zgcdN A B) [] ∧ zgcdN (zgcdN A B) [] = zgcdN A B := by
  have hF := h.found
  have hl := h.lA
  refine ⟨(pair0 hF.1 (by omega) h.pair.2.2 (by decide)).1, ?_⟩
  rw [zgcdN_nil_right]
  refine ComG.uniq (normN_isG hF.1).1.com ((ComG.self hF.1 hF.2.1).more (E := [[]]) ?_) fun _ => Iff.rfl
  intro e he
  rw [List.mem_singleton.mp he]
  exact ⟨Int.dvd_zero _, D.nil _⟩
/-- the things drawn beside -/
def Beside (F : List Int) (X : List (List Int)) : Prop := X = [] ∨ ∃ p, Nz p ∧ p.length ≤ 2 ∧ Sm 2 p ∧ X = [mulN p F]
theorem Drawn.forward {X Y : List (List Int)} (hX : Beside (zgcdN A B) X) (hY : Y = [] ∨ Y = [[]]) : GAll [] ([A, B] ++ X ++ Y) ∧ zgcdAllN ([A, B] ++ X ++ Y) = zgcdN A B := by
  have hF := h.found
  obtain ⟨a1, a2, a3, a4⟩ := pair0 h.nA (by have := h.lA; omega) h.sA (by decide)
  have nf : Nz (normN A) := (normN_isG h.nA).2.1
  obtain ⟨b1, b2, b3⟩ := pair4 nf h.nB (by have := h.lA; omega) h.lB.2 (a3.mono (by decide : 2 * 10 ≤ 20)) (h.sB.mono (by decide)) (by decide)
  have e2 : zgcdN (normN A) B = zgcdN A B := ComG.uniq ((ComG.start (rows := []) (fun _ hq => nomatch hq) (normN_isG h.nA).2).step b2) h.com fun _ => Iff.rfl
  have c1 : GAll [] [A, B] ∧ [A, B].foldl zgcdN [] = zgcdN A B := by
    refine ⟨⟨a2, ?_, trivial⟩, ?_⟩
    · rw [zgcdN_nil_left]; exact b1
    · show zgcdN (zgcdN [] A) B = _
      rw [zgcdN_nil_left]; exact e2
  have c2 : GAll (zgcdN A B) X ∧ X.foldl zgcdN (zgcdN A B) = zgcdN A B := by
    rcases hX with rfl | ⟨p, hp, lp, sp, rfl⟩
    · exact ⟨trivial, rfl⟩
    · obtain ⟨g1, g2⟩ := h.again hp lp sp
      exact ⟨⟨g1, trivial⟩, g2⟩
  have c3 : GAll (zgcdN A B) Y ∧ Y.foldl zgcdN (zgcdN A B) = zgcdN A B := by
    rcases hY with rfl | rfl
    · exact ⟨trivial, rfl⟩
    · obtain ⟨g1, g2⟩ := h.again0
      exact ⟨⟨g1, trivial⟩, g2⟩
  refine ⟨?_, ?_⟩
  · rw [GAll_append, GAll_append, List.foldl_append, c1.2, c2.2]
    exact ⟨⟨c1.1, c2.1⟩, c3.1⟩
  · unfold zgcdAllN
    rw [List.foldl_append, List.foldl_append, c1.2, c2.2, c3.2]
theorem Drawn.comAll {X Y : List (List Int)} (hX : Beside (zgcdN A B) X) (hY : Y = [] ∨ Y = [[]]) : ComG (zgcdN A B) ([A, B] ++ X ++ Y) := by
  rw [List.append_assoc]
  refine h.com.more fun e he => ?_
  rcases List.mem_append.mp he with he | he
  · rcases hX with rfl | ⟨p, hp, lp, sp, rfl⟩
    · cases he
    · rw [List.mem_singleton.mp he]
      obtain ⟨_, _, _, m4, m5⟩ := h.mult hp lp sp
      exact ⟨m5, m4⟩
  · rcases hY with rfl | rfl
    · cases he
    · rw [List.mem_singleton.mp he]
      exact ⟨Int.dvd_zero _, D.nil _⟩
theorem Drawn.back {X Y : List (List Int)} (hX : Beside (zgcdN A B) X) (hY : Y = [] ∨ Y = [[]]) : GAll [] (([A, B] ++ X ++ Y).reverse) ∧ zgcdAllN (([A, B] ++ X ++ Y).reverse) = zgcdN A B := by
  have hF := h.found
  have hlA := h.lA
  have hlB := h.lB
  have hcom := h.comAll hX hY
  have eR : ([A, B] ++ X ++ Y).reverse = Y ++ (X ++ [B, A]) := by
    rcases hX with rfl | ⟨p, _, _, _, rfl⟩ <;> rcases hY with rfl | rfl <;> simp
  have hmem : ∀ q, q ∈ Y ++ (X ++ [B, A]) ↔ q ∈ [A, B] ++ X ++ Y := fun q => by rw [← eR, List.mem_reverse]
  rw [eR]
  have c3 : GAll [] Y ∧ Y.foldl zgcdN [] = [] ∧ ∀ q ∈ Y, q = [] := by
    rcases hY with rfl | rfl
    · exact ⟨trivial, rfl, fun _ hq => nomatch hq⟩
    · refine ⟨⟨gfine_nil, trivial⟩, ?_, fun q hq => List.mem_singleton.mp hq⟩
      show zgcdN [] [] = []
      rw [zgcdN_nil_left, normN_nil]
  rw [GAll_append, c3.2.1]
  suffices hs : GAll [] (X ++ [B, A]) ∧ (X ++ [B, A]).foldl zgcdN [] = zgcdN A B by
    refine ⟨⟨c3.1, hs.1⟩, ?_⟩
    unfold zgcdAllN
    rw [List.foldl_append, c3.2.1]
    exact hs.2
  rcases hX with rfl | ⟨p, hp, lp, sp, rfl⟩
  · obtain ⟨a1, a2, a3, a4⟩ := pair0 h.nB (by omega) h.sB (by decide)
    have nf : Nz (normN B) := (normN_isG h.nB).2.1
    obtain ⟨b1, b2, b3⟩ := pair4 nf h.nA (by omega) hlA.2 (a3.mono (by decide : 2 * 10 ≤ 20)) (h.sA.mono (by decide)) (by decide)
    have e2 : zgcdN (normN B) A = zgcdN A B := ComG.uniq ((ComG.start c3.2.2 (normN_isG h.nB).2).step b2) hcom fun q => by
      rw [← hmem q]
      simp
    refine ⟨⟨a2, ?_, trivial⟩, ?_⟩
    · rw [zgcdN_nil_left]; exact b1
    · show zgcdN (zgcdN [] B) A = _
      rw [zgcdN_nil_left]; exact e2
  · obtain ⟨m1, m2, m3, m4, m5⟩ := h.mult hp lp sp
    generalize hP : mulN p (zgcdN A B) = P at *
    obtain ⟨a1, a2, a3, a4⟩ := pair0 m1 (by omega) m3 (by decide)
    have nf : Nz (normN P) := (normN_isG m1).2.1
    have g0 := (normN_isG m1).2
    have key : GFine (normN P) B ∧ IsG (zgcdN (normN P) B) (normN P) B ∧ Sm (13 * 320 + 20) (zgcdN (normN P) B) := by
      by_cases h4 : P.length ≤ 4
      · exact pair4 nf h.nB (by omega) hlB.2 (a3.mono (by decide : 2 * 160 ≤ 320)) (h.sB.mono (by decide)) (by decide)
      · have e4 : (zgcdN A B).length = B.length := by have := hF.2.2.2.1; omega
        have d1 : D B (zgcdN A B) := D.flip hF.1 h.nB h.pair.2.1.right e4
        have d2 : D B (normN P) := (g0.2.2.2 B h.nB).mpr ⟨D.nil B, D.trans d1 m4⟩
        exact (pairD nf h.nB (by omega) (by omega) d2 (a3.mono (by decide : 2 * 160 ≤ 320)) (h.sB.mono (by decide)) (by decide)).1
    obtain ⟨k1, k2, k3⟩ := key
    have l2 := D.len k2.1 h.nB k2.right
    obtain ⟨b1, b2, b3⟩ := pair4 k2.1 h.nA (by omega) hlA.2 k3 (h.sA.mono (by decide)) (by decide)
    have e2 : zgcdN (zgcdN (normN P) B) A = zgcdN A B := ComG.uniq (((ComG.start c3.2.2 g0).step k2).step b2) hcom fun q => by
      rw [← hmem q]
      simp
    refine ⟨⟨a2, ?_, ?_, trivial⟩, ?_⟩
    · rw [zgcdN_nil_left]; exact k1
    · rw [zgcdN_nil_left]; exact b1
    · show zgcdN (zgcdN (zgcdN [] P) B) A = _
      rw [zgcdN_nil_left]; exact e2
theorem Drawn.left {X Y : List (List Int)} (hX : Beside (zgcdN A B) X) (hY : Y = [] ∨ Y = [[]]) : ∀ e ∈ [A, B] ++ X ++ Y, e.length ≤ 5 ∧ Sm 1000 e ∧ leftN e.length e (zgcdN A B) = [] := by
  have hF := h.found
  have hlA := h.lA
  have hlB := h.lB
  intro e he
  rcases List.mem_append.mp he with he | he
  · rcases List.mem_append.mp he with he | he
    · simp only [List.mem_cons, List.not_mem_nil, or_false] at he
      rcases he with rfl | rfl
      · exact ⟨by omega, h.sA.mono (by decide), leftN_nil hF.1 _ _ (Nat.le_refl _) h.nA.lead h.pair.2.1.left⟩
      · exact ⟨by omega, h.sB.mono (by decide), leftN_nil hF.1 _ _ (Nat.le_refl _) h.nB.lead h.pair.2.1.right⟩
    · rcases hX with rfl | ⟨p, hp, lp, sp, rfl⟩
      · cases he
      · rw [List.mem_singleton.mp he]
        obtain ⟨m1, m2, m3, m4, _⟩ := h.mult hp lp sp
        exact ⟨by omega, m3.mono (by decide), leftN_nil hF.1 _ _ (Nat.le_refl _) m1.lead m4⟩
  · rcases hY with rfl | rfl
    · cases he
    · rw [List.mem_singleton.mp he]
      exact ⟨by simp, (fun x hx => nomatch hx), rfl⟩
end
end Mine
end

section
open PySem PySem.W PySem.Calls PySem.Spec PyProof.Rows
open Mine
set_option maxRecDepth 100000
local macro_rules | `(tactic| ksw_same) => `(tactic| (intro z h2 h3; (simp [List.forall_mem_cons] at h2 h3); simp [kstB, h2, h3]))
local macro_rules | `(tactic| k_ne) => `(tactic| (refine neN ?_; (try dsimp only); first | ((with_reducible refine' LtAll.l ?h ?m); (case h => with_reducible assumption); (case m => (repeat (first | with_reducible exact List.mem_cons_self | with_reducible refine' List.mem_cons_of_mem _ ?_)))) | ((with_reducible refine' LtAll.r ?h ?m); (case h => with_reducible assumption); (case m => (repeat (first | with_reducible exact List.mem_cons_self | with_reducible refine' List.mem_cons_of_mem _ ?_)))) | ((with_reducible refine' NEs.l ?h ?m); (case h => with_reducible assumption); (case m => (repeat (first | with_reducible exact List.mem_cons_self | with_reducible refine' List.mem_cons_of_mem _ ?_)))) | ((with_reducible refine' NEs.r ?h ?m); (case h => with_reducible assumption); (case m => (repeat (first | with_reducible exact List.mem_cons_self | with_reducible refine' List.mem_cons_of_mem _ ?_)))) | omega))
local macro_rules | `(tactic| k_lt $h:ident) => `(tactic| replace $h := LtAll.of $h)
local macro_rules | `(tactic| omega) => `(tactic| (first | (with_reducible assumption) | (with_reducible exact om1 (by assumption) (by decide)) | (with_reducible exact om2 (by assumption) (by decide)) | (with_reducible exact om3 (by assumption) (by decide)) | (with_reducible exact om4 (by assumption) (by decide)) | (with_reducible exact om5 (by assumption) (by assumption) (by decide)) | (with_reducible exact om6 (by assumption) (by assumption) (by decide)) | (with_reducible exact om7 _) | (with_reducible exact om8 _ _) | (with_reducible exact om9 _) | (with_reducible exact om10 _ _) | (with_reducible exact om11 (by assumption)) | (with_reducible exact om13 _) | (with_reducible exact om14 _) | (with_reducible exact Ne.symm (om14 _)) | (with_reducible exact om15 _) | (with_reducible exact Ne.symm (om15 _)) | (with_reducible exact om16 _) | (with_reducible exact om17 (by assumption) (by decide)) | (with_reducible exact om19 _) | (with_reducible exact om20 _) | (with_reducible exact om21 _) | (with_reducible exact om22 _) | (with_reducible exact om23 (by assumption) (by assumption)) | (with_reducible exact om24 (by assumption) (by assumption)) | (with_reducible exact om25 _ _) | (with_reducible exact om26 (by assumption)) | (with_reducible exact om28 (by assumption)) | (with_reducible exact om29 (by assumption) (by assumption)) | decide | lia | omega +splitNatSub))
local macro_rules | `(tactic| walk_at "use B") => `(tactic| ((case B => k_asm); (case F => k_asm); (case N => k_asm); (case X => k_asm); (case T => k_asm); (case hk => rfl); (case hd => exact Mine.hdD (by assumption) (by decide)); (case hu => exact Mine.hdU (by assumption) (by decide))))
local macro_rules | `(tactic| walk_at "use L1") => `(tactic| exact ⟨_, by first | is_list | exact News.isList (by k_asm) (by k_mem), by first | l_ints | exact IntsAre.cons _ _ IntsAre.nil⟩)
local macro_rules | `(tactic| walk_at "use L2") => `(tactic| exact ⟨⟨_, by first | is_list | exact News.isList (by k_asm) (by k_mem), by first | l_ints | exact IntsAre.cons _ _ IntsAre.nil⟩, ⟨_, by first | is_list | exact News.isList (by k_asm) (by k_mem), by first | l_ints | exact IntsAre.cons _ _ IntsAre.nil⟩⟩)
local macro_rules | `(tactic| walk_at "use LI") => `(tactic| (rotate_right; intro r9 vs9 n9 h9 tk9 F9 N9 hi9 hr9 hn9; (try k_sweep); (try dsimp only); rotate_left))
local macro_rules | `(tactic| walk_at "use II") => `(tactic| (rotate_right; intro t9 h9 tk9 F9 N9; (try k_sweep); (try dsimp only); rotate_left))
local macro_rules | `(tactic| walk_at "use NI") => `(tactic| (rotate_right; intro h9 tk9 F9 N9; (try k_sweep); (try dsimp only); rotate_left))
local macro_rules | `(tactic| walk_at "use RI") => `(tactic| (rotate_right; intro R9 rv9 n9 led9 h9 tk9 F9 N9 hr9 hn9; (try k_sweep); (try dsimp only); rotate_left))
section
open PySem PySem.W PySem.Calls PySem.Spec PyProof.Rows
namespace Mine
set_option maxRecDepth 100000
set_option maxHeartbeats 4000000
theorem fill_frag1 : (fun (_ : OpenLaw) (_ : Params → Frag) => True) PySem.Challenge.rw_pf0034_01 hd.heap_39 := by k_fill; trivial
theorem RetInts.of {r : Addr} {vs : List Value} {n : Nat} {ns : List Int} {h h' : Heap} {L : Addr} {news : List (Addr × Obj)} (N : News h L h' news) (hm : (r, lst vs n) ∈ news) (hi : IntsAre vs ns) : RetInts ns h (.ref r) h' :=
  ⟨r, vs, n, rfl, (N _ hm).2.2, (N _ hm).1, hi⟩
/-! gcd -/
structure GS where
  a : Int
  ta : Tok
  b : Int
  tb : Tok
theorem gcd_turn {a b : Int} (hb : 0 ≤ b) (h : b ≠ 0) : 0 ≤ a.fmod b ∧ Int.gcd b (a.fmod b) = Int.gcd a b ∧ (a.fmod b).toNat < b.toNat := by
  rw [Int.fmod_eq_emod_of_nonneg a hb]
  have h1 := Int.emod_nonneg a h
  have h2 := Int.emod_lt_of_pos a (show 0 < b by omega)
  refine ⟨h1, ?_, by omega⟩
  have h3 := Int.gcd_add_mul_left_right b (a % b) (a / b)
  rw [Int.emod_add_mul_ediv] at h3
  rw [← h3, Int.gcd_comm]
section
local macro_rules | `(tactic| walk_at "exec While Compare cons nil") => `(tactic| refine Stop.out ?_)
theorem gcd_ok (w : World) (a b : Int) (t u : Tok) : CallOk w 21 [.int a t, .int b u] 1 (fun _ => True) (RetInt (Int.gcd a b)) := by
  refine enterH [("a", .int a t), ("b", .int b u)] (by k_is) (by k_is) (fun _ => BindsTo.of_eq rfl) (locs rfl) rfl rfl rfl (by decide) ?_
  intro mean mg mb dp un gd h₀ s L Qb base outer hQb F N X T B hd hu _
  k_steps
  refine Stop.mk ?_
  rename Fr _ _ _ _ => F1
  rename News _ _ _ _ => N1
  refine ksw_whileH (σ := GS) (fun _ => []) (fun c => [("a", .int c.a c.ta), ("b", .int c.b c.tb)]) (fun _ => True) [] (fun c => 0 ≤ c.a ∧ 0 ≤ c.b ∧ Int.gcd c.a c.b = Int.gcd a b) (fun c => c.b.toNat) ⟨_, _, _, _⟩ F1 (kst_newsOf N1 (fun _ h => nomatch h)) trivial (by kst_all) ?_ ?_
  · dsimp only
    refine ⟨by split <;> omega, by split <;> omega, ?_⟩
    (repeat' split) <;> simp
  · clear F1 N1
    intro c ku s1 Qt Qf hUt hUr hUf _ kP kF kN
    obtain ⟨h1, h2, h3⟩ := kP
    k_steps
    · have q := gcd_turn (a := c.a) h2 (by assumption)
      exact hUt (ksw_end (⟨c.b, c.tb, c.a.fmod c.b, _⟩ : GS) (by assumption) (by assumption) (by kst_in) trivial (by kst_all) (by ksw_same) ⟨h2, q.1, q.2.1.trans h3⟩ q.2.2)
    · refine hUf ?_
      k_steps
      refine hQb kF ⟨c.ta, ?_⟩
      have h0 : c.b = 0 := by assumption
      rw [h0, Int.gcd_zero_right] at h3
      rw [← h3]
      show Value.int c.a c.ta = _
      congr 1
      omega
end
/-! ztrim -/
structure SI where
  k : Int
  t : Tok
theorem take_last {ns : List Int} {k : Int} (h1 : 0 < k) (h2 : k ≤ ns.length) : ns.take k.toNat = ns.take (k - 1).toNat ++ [ns.getD (k - 1).toNat 0] := by
  have e : k.toNat = (k - 1).toNat + 1 := by omega
  have hl : (k - 1).toNat < ns.length := by omega
  rw [e, List.take_add_one, List.getElem?_eq_getElem hl, List.getD_eq_getElem?_getD, List.getElem?_eq_getElem hl]
  rfl
section
local macro_rules | `(tactic| walk_at "idle") => `(tactic| fail "idle")
local macro_rules | `(tactic| walk_at "exec While BoolOp cons nil") => `(tactic| refine Stop.out ?_)
theorem ztrim_ok (w : World) (a : Addr) (ns : List Int) (hn : ns.length < 2 ^ 20) : CallOk w 55 [.ref a] 1 (IntsAt a ns) (RetInts (trimN ns)) := by
  refine enterH [("row", .ref a)] (by k_is) (by k_is) (fun _ => BindsTo.of_eq rfl) (locs rfl) rfl rfl rfl (by decide) ?_
  intro mean mg mb dp un gd h₀ s L Qb base outer hQb F N X T B hd hu ⟨vs, hl, hi⟩
  have hlen := hi.length
  k_steps
  refine Stop.mk ?_
  rename Fr _ _ _ _ => F1
  rename News _ _ _ _ => N1
  refine ksw_whileH (σ := SI) (fun _ => []) (fun c => [("size", .int c.k c.t)]) (fun _ => True) [] (fun c => 0 ≤ c.k ∧ c.k ≤ ns.length ∧ trimN (ns.take c.k.toNat) = trimN ns) (fun c => c.k.toNat) ⟨_, _⟩ F1 (kst_newsOf N1 (fun _ h => nomatch h)) trivial (by kst_all) ?_ ?_
  · dsimp only
    refine ⟨by omega, by omega, ?_⟩
    simp
  · clear F1 N1
    intro c ku s1 Qt Qf hUt hUr hUf _ kP kF kN
    obtain ⟨h1, h2, h3⟩ := kP
    k_steps
    · have p1 : 0 < c.k := by assumption
      have p2 : ns.getD (c.k - 1).toNat 0 = 0 := by assumption
      refine hUt (ksw_end (⟨c.k - 1, _⟩ : SI) (by assumption) (by assumption) (by kst_in) trivial (by kst_all) (by ksw_same) ⟨by dsimp only; omega, by dsimp only; omega, ?_⟩ (by dsimp only; omega))
      rw [take_last p1 h2, p2, trimN_snoc0] at h3
      exact h3
    · have p1 : 0 < c.k := by assumption
      have p2 : ns.getD (c.k - 1).toNat 0 ≠ 0 := by assumption
      refine hUf ?_
      k_steps
      rename News _ _ _ _ => N1
      refine hQb (by assumption) (RetInts.of N1 (.head _) ?_)
      rw [← h3, take_last p1 h2, trimN_snoc _ p2, ← take_last p1 h2]
      assumption
    · have p1 : ¬ 0 < c.k := by assumption
      refine hUf ?_
      k_steps
      rename News _ _ _ _ => N1
      refine hQb (by assumption) (RetInts.of N1 (.head _) ?_)
      have e : c.k.toNat = 0 := by omega
      rename IntsAre _ (List.take c.k.toNat ns) => hI
      rw [e, List.take_zero] at hI
      rw [← h3, e, List.take_zero]
      exact hI
end
/-! zlead -/
theorem zlead_ok (w : World) (a : Addr) (ns : List Int) (hn : ns.length < 2 ^ 20) : CallOk w 62 [.ref a] 1 (IntsAt a ns) (RetInt (ns.getLastD 0)) := by
  refine enterH [("p", .ref a)] (by k_is) (by k_is) (fun _ => BindsTo.of_eq rfl) (locs rfl) rfl rfl rfl (by decide) ?_
  intro mean mg mb dp un gd h₀ s L Qb base outer hQb F N X T B hd hu ⟨vs, hl, hi⟩
  have hlen := hi.length
  k_steps
  · refine hQb F ⟨_, congrArg (Value.int · _) ?_⟩
    have h0 : (0 : Int) < ns.length := by assumption
    have e : (-1 + (ns.length : Int)).toNat = ns.length - 1 := by omega
    rw [e, List.getLastD_eq_getLast?, List.getLast?_eq_getElem?, List.getD_eq_getElem?_getD]
  · refine hQb F ⟨_, congrArg (Value.int · _) ?_⟩
    have h0 : ¬ (0 : Int) < ns.length := by assumption
    have : ns = [] := List.eq_nil_of_length_eq_zero (by omega)
    rw [this]; rfl
/-! check_bottom -/
theorem check_bottom_ok (w : World) (a : Addr) (ns : List Int) (hn : ns.length < 2 ^ 20) (hk : ns ≠ []) : CallOk w 117 [.ref a] 1 (IntsAt a ns) (fun _ v _ => v = .none) := by
  have hk' : (ns.length : Int) ≠ 0 := by
    have := List.length_pos_iff.mpr hk
    omega
  refine enter [("p", .ref a)] (by k_is) (by k_is) (fun _ => BindsTo.of_eq rfl) (locs rfl) rfl rfl rfl (by decide) ?_
  intro mean mg mb dp un gd s h₁ L base outer F N X T B hd hu ⟨vs, hl, hi⟩
  have hlen := hi.length
  k_steps
  exact Done.of F rfl
/-! zneg -/
theorem zneg_ok (w : World) (a : Addr) (ns : List Int) (hn : ns.length < 2 ^ 20) : CallOk w 72 [.ref a] 1 (IntsAt a ns) (RetInts (negN ns)) := by
  refine enterH [("p", .ref a)] (by k_is) (by k_is) (fun _ => BindsTo.of_eq rfl) (locs rfl) rfl rfl rfl (by decide) ?_
  intro mean mg mb dp un gd h₀ s L Qb base outer hQb F N X T B hd hu ⟨vs, hl, hi⟩
  have hlen := hi.length
  k_steps
  rename NewPlain _ _ _ _ => npX
  rename Fr _ _ _ _ => F1
  rename News _ _ _ _ => N1
  rename CarriedAll _ _ => cX
  obtain ⟨nX, NX⟩ := made_enters npX F1 N1 (by assumption)
  refine hQb F1 (RetInts.of NX (.head _) ?_)
  have := CarriedAll.intsOf cX
  rw [List.filter_eq_self.mpr (fun _ _ => rfl)] at this
  exact this
section
local macro_rules | `(tactic| walk_at "binaryOp Mult int int") => `(tactic| refine P.mul_int ?_ (IntMulOk.of_le (m := 60000000) (n := 60000000) ((by assumption : Sm 60000000 _) _ (by assumption)) (by assumption) (by decide)))
theorem zscale_ok (w : World) (a : Addr) (ns : List Int) (k : Int) (t : Tok) (hn : ns.length < 2 ^ 20) (hb : Sm 60000000 ns) (hk : Builtin.Int.intBits k ≤ 60000000) : CallOk w 84 [.ref a, .int k t] 1 (IntsAt a ns) (RetInts (scaleN ns k)) := by
  refine enterCH [("p", .ref a), ("k", .int k t)] (by k_is) (by k_is) (fun _ => BindsTo.of_eq rfl) (kindsX rfl) (by decide +kernel) rfl rfl rfl ?_
  intro mean mg mb dp un gd h₀ s L Qb cells base outer hQb F N Y X T B hd hu ⟨vs, hl, hi⟩
  have hlen := hi.length
  k_cells Y
  unfold scaleN at hQb
  k_steps
  · rename News _ _ _ _ => N1
    rename Fr _ _ _ _ => F1
    have h0 : k ≠ 0 := by assumption
    rw [if_pos h0] at hQb
    exact hQb F1 (RetInts.of N1 (.head _) (by assumption))
  · rename News _ _ _ _ => N1
    have h0 : k = 0 := by assumption
    rw [if_neg (fun h => h h0)] at hQb
    exact hQb (by assumption) (RetInts.of N1 (.head _) .nil)
end
section
local macro_rules | `(tactic| walk_at "idle") => `(tactic| fail "idle")
local macro_rules | `(tactic| walk_at "binaryOp FloorDiv int int") => `(tactic| refine floordiv_int (by assumption) ?_ (Or.inr (PylongRoom.of (Heap.NoLimit.keeps (Top.nolimit (by assumption)) (Fr.keep (by assumption))) (by show _ + 100 < 1000; (simp only [recursionLimit] at *); omega) (SeerAt.of (Heap.NoSeer.keeps (Top.seer (by assumption) (by decide +kernel)) (Fr.keep (by assumption))) rfl rfl rfl rfl rfl rfl))))
theorem zdivided_ok (w : World) (a : Addr) (ns : List Int) (k : Int) (t : Tok) (hn : ns.length < 2 ^ 20) (hk : k ≠ 0) : CallOk w 103 [.ref a, .int k t] 111 (IntsAt a ns) (RetInts (divN ns k)) := by
  refine enterCH [("p", .ref a), ("k", .int k t)] (by k_is) (by k_is) (fun _ => BindsTo.of_eq rfl) (kindsX rfl) (by decide +kernel) rfl rfl rfl ?_
  intro mean mg mb dp un gd h₀ s L Qb cells base outer hQb F N Y X T B hd hu ⟨vs, hl, hi⟩
  have hlen := hi.length
  k_cells Y
  unfold divN at hQb
  k_steps
  · rename News _ _ _ _ => N1
    rename Fr _ _ _ _ => F1
    exact hQb F1 (RetInts.of N1 (.head _) (by assumption))
end
/-! zraise -/
theorem zraise_ok (w : World) (a : Addr) (ns : List Int) (k : Int) (t : Tok) (hn : ns.length < 2 ^ 20) (h0 : 0 ≤ k) (hk : k < 1000) : CallOk w 91 [.ref a, .int k t] 1 (IntsAt a ns) (RetInts (raiseN ns k.toNat)) := by
  refine enterH [("p", .ref a), ("many", .int k t)] (by k_is) (by k_is) (fun _ => BindsTo.of_eq rfl) (locs rfl) rfl rfl rfl (by decide) ?_
  intro mean mg mb dp un gd h₀ s L Qb base outer hQb F N X T B hd hu ⟨vs, hl, hi⟩
  have hlen := hi.length
  unfold raiseN at hQb
  k_steps
  · rename News _ _ _ _ => N1
    have p1 : (0 : Int) < ns.length := by assumption
    rw [if_neg (by intro e; rw [e] at p1; exact absurd p1 (by decide))] at hQb
    rename IntsAre _ (_ ++ _) => hI
    refine hQb (by assumption) (RetInts.of N1 (.head _) ?_)
    have e : (List.replicate k.toNat [(0 : Int)]).flatten = List.replicate k.toNat 0 := by simp
    rw [e] at hI
    exact hI
  · rename News _ _ _ _ => N1
    have p1 : ¬ (0 : Int) < ns.length := by assumption
    rw [if_pos (List.eq_nil_of_length_eq_zero (by omega))] at hQb
    exact hQb (by assumption) (RetInts.of N1 (.head _) .nil)
/-! zadd -/
theorem nat0 (i : Nat) : (0 + (i : Int)).toNat = i := by omega
theorem getD_out {ns : List Int} {i : Nat} (h : ¬ (0 + (i : Int)) < (ns.length : Int)) : ns.getD i 0 = 0 := by
  rw [List.getD_eq_getElem?_getD, List.getElem?_eq_none (by omega)]
  rfl
theorem add_c1 (ns ms : List Int) (i : Nat) : ns.getD (0 + (i : Int)).toNat 0 + ms.getD (0 + (i : Int)).toNat 0 = ns.getD i 0 + ms.getD i 0 := by rw [nat0]
theorem add_c2 {ns ms : List Int} {i : Nat} (h : ¬ (0 + (i : Int)) < (ms.length : Int)) : ns.getD (0 + (i : Int)).toNat 0 + 0 = ns.getD i 0 + ms.getD i 0 := by rw [nat0, getD_out h]
theorem add_c3 {ns ms : List Int} {i : Nat} (h : ¬ (0 + (i : Int)) < (ns.length : Int)) : 0 + ms.getD (0 + (i : Int)).toNat 0 = ns.getD i 0 + ms.getD i 0 := by rw [nat0, getD_out h]
theorem add_c4 {ns ms : List Int} {i : Nat} (h1 : ¬ (0 + (i : Int)) < (ns.length : Int)) (h2 : ¬ (0 + (i : Int)) < (ms.length : Int)) : (0 : Int) + 0 = ns.getD i 0 + ms.getD i 0 := by rw [getD_out h1, getD_out h2]
theorem ints_cat {vs us : List Value} {l l' : List Int} (h : IntsAre vs l) (h' : IntsAre us l') : IntsAre (vs ++ us) (l ++ l') := by
  induction h with
  | nil => exact h'
  | cons n t _ ih => exact .cons n t ih
theorem add_snoc {ys : List Value} {ns ms : List Int} {i : Nat} {v : Int} {t : Tok} (hys : IntsAre ys ((addR ns ms).take i)) (hi : i < (addR ns ms).length) (e : v = ns.getD i 0 + ms.getD i 0) : IntsAre (ys ++ [.int v t]) ((addR ns ms).take (i + 1)) := by
  have h := addR_get ns ms i
  rw [List.getD_eq_getElem?_getD, List.getElem?_eq_getElem hi, ← e] at h
  rw [List.take_add_one, List.getElem?_eq_getElem hi]
  have h2 : (addR ns ms)[i] = v := h
  rw [h2]
  exact ints_cat hys (.cons v t .nil)
section
local macro_rules | `(tactic| walk_at "call ref") => `(tactic| ((with_reducible show wpAny _ _ (call (Value.ref 55) [Value.ref _]) _ _ _); (with_unfolding_all refine' CallOk.useL (ztrim_ok _ _ _ ?hn) ?B ?F ?N ?X ?T ?hk ?hd ?hu ?hp ?_); (case B => k_asm); (case F => k_asm); (case N => k_asm); (case X => k_asm); (case T => k_asm); (case hk => rfl); (case hp => exact ⟨_, by is_list, by l_ints⟩)))
local macro_rules | `(tactic| walk_at "eval ListComp") => `(tactic| refine Stop.out ?_)
local macro_rules | `(tactic| walk_at "CompSrc") => `(tactic| refine Stop.out ?_)
theorem zadd_ok (w : World) (a b : Addr) (ns ms : List Int) (hn : ns.length < 2 ^ 19) (hm : ms.length < 2 ^ 19) : CallOk w 67 [.ref a, .ref b] 2 (fun h => IntsAt a ns h ∧ IntsAt b ms h) (RetInts (addN ns ms)) := by
  refine enterCH [("a", .ref a), ("b", .ref b)] (by k_is) (by k_is) (fun _ => BindsTo.of_eq rfl) (kindsX rfl) (by decide +kernel) rfl rfl rfl ?_
  intro mean mg mb dp un gd h₀ s L Qb cells base outer hQb F N Y X T B hd hu ⟨⟨vs, hl, hi⟩, ⟨us, hl', hi'⟩⟩
  have hlen := hi.length
  have hlen' := hi'.length
  k_cells Y
  generalize hK1 : L + 1 = K1 at *
  k_steps
  rename Fr _ _ _ _ => F1
  rename News _ _ _ _ => N1
  rename_i o1 o2 _ _ _ _ _
  have hM : (addR ns ms).length < 2 ^ 20 := by rw [addR_len]; omega
  have eN : (if (ms.length : Int) > (ns.length : Int) then (ms.length : Int) else (ns.length : Int)) = ((addR ns ms).length : Int) := by rw [addR_len]; split <;> omega
  rw [eN] at F1
  clear eN
  obtain ⟨m0, -, F1⟩ := seat_fr [("size", _)] F1 (by kst_all)
  refine Stop.mk (LCg.ListComp_U (F₀ := F1) (by with_unfolding_all rfl) (by decide) (by rfl) (by decide) (by rfl) ?_)
  k_steps
  refine Stop.mk (LCg.CompSrc.range (n := (addR ns ms).length) rfl (by assumption) (by assumption) (by assumption) (small_one (by omega) (by omega) (by omega) (by omega)) (by rw [rangeSize_one]; split <;> omega) (by rw [sizeLine_eq]; omega) (fun g => ?_))
  refine comp_stH (σ := Unit) (fun _ => [(K1 + 1, o1), (K1, o2)]) (fun i ys _ => IntsAre ys ((addR ns ms).take i)) () .nil ?_ ?_
  · rintro i ys _ v I oI C oC D m₂ s2 Qt2 E' hUt2 hin hys hv hC hx F3 N3 off ne3
    obtain ⟨tv, rfl⟩ := hv
    k_steps
    all_goals refine hUt2 (comp_end () (by assumption) (by assumption) (fun p hp => hp) off trivial (add_snoc hys hin ?_))
    all_goals first | exact add_c1 _ _ _ | exact add_c2 (by assumption) | exact add_c3 (by assumption) | exact add_c4 (by assumption) (by assumption)
  · rintro ys _ hys D h tk F3 N3 off
    rw [List.take_length] at hys
    k_steps
    rename News _ _ _ _ => N1
    rename IntsAre _ (trimN _) => hI
    exact hQb (by assumption) (RetInts.of N1 (.head _) hI)
end
end Mine
end

section
open PySem PySem.W PySem.Calls PySem.Spec PyProof.Rows
namespace Mine
set_option maxRecDepth 100000
set_option maxHeartbeats 4000000
theorem fill_frag_W2 : (fun (_ : OpenLaw) (_ : Params → Frag) => True) PySem.Challenge.rw_pf0034_01 hd.heap_39 := by k_fill; trivial
/-! zsub -/
section
local macro_rules | `(tactic| walk_at "call ref") => `(tactic| ((with_unfolding_all refine' CallOk.useL (zneg_ok _ _ _ ?_) ?B ?F ?N ?X ?T ?hk ?hd ?hu ?hp ?_); walk_at "use B"; (case hp => walk_at "use L1"); walk_at "use LI"))
local macro_rules | `(tactic| walk_at "call ref") => `(tactic| ((with_unfolding_all refine' CallOk.useL (zadd_ok _ _ _ _ _ ?_ ?_) ?B ?F ?N ?X ?T ?hk ?hd ?hu ?hp ?_); walk_at "use B"; (case hp => walk_at "use L2"); walk_at "use LI"))
theorem zsub_ok (w : World) (a b : Addr) (ns ms : List Int) (hn : ns.length < 2 ^ 19) (hm : ms.length < 2 ^ 19) : CallOk w 79 [.ref a, .ref b] 3 (fun h => IntsAt a ns h ∧ IntsAt b ms h) (RetInts (subN ns ms)) := by
  refine enterH [("a", .ref a), ("b", .ref b)] (by k_is) (by k_is) (fun _ => BindsTo.of_eq rfl) (locs rfl) rfl rfl rfl (by decide) ?_
  intro mean mg mb dp un gd h₀ s L Qb base outer hQb F N X T B hd hu ⟨⟨vs, hl, hi⟩, ⟨us, hl', hi'⟩⟩
  have hlen := hi.length
  have hlen' := hi'.length
  k_steps
  · rw [negN_len]; exact hm
  · rename News _ _ _ _ => N1
    exact hQb (by assumption) (RetInts.of N1 (.head _) (by assumption))
end
/-! gcd_all -/
section
local macro_rules | `(tactic| walk_at "call ref") => `(tactic| ((with_unfolding_all refine' CallOk.useI (gcd_ok _ _ _ _ _) ?B ?F ?N ?X ?T ?hk ?hd ?hu ?hp ?_); walk_at "use B"; (case hp => trivial); walk_at "use II"))
local macro_rules | `(tactic| walk_at "exec For Name Name cons nil") => `(tactic| refine Stop.out ?_)
local macro_rules | `(tactic| walk_at "pyIter ref") => `(tactic| refine Stop.out ?_)
theorem gcd_all_ok (w : World) (a : Addr) (ns : List Int) (hn : ns.length < 2 ^ 20) : CallOk w 28 [.ref a] 2 (IntsAt a ns) (RetInt (contN ns)) := by
  refine enterH [("numbers", .ref a)] (by k_is) (by k_is) (fun _ => BindsTo.of_eq rfl) (locs rfl) rfl rfl rfl (by decide) ?_
  intro mean mg mb dp un gd h₀ s L Qb base outer hQb F N X T B hd hu ⟨vs, hl, hi⟩
  have hlen := hi.length
  k_steps
  refine Stop.mk ?_
  rename Fr _ _ _ _ => F1
  rename News _ _ _ _ => N1
  refine For_turns F1 ?_
  k_steps
  refine Stop.mk ?_
  refine iter_list rfl F1 N1 (.inl ⟨rfl, hl⟩) (fun I hI => ?_)
  refine for_stH (σ := SI) (fun _ => []) (fun c => [("found", .int c.k c.t)]) ["number"] (fun r c => ∃ us ms, r = us.map Itm.val ∧ IntsAre us ms ∧ ms.foldl (fun (g : Int) x => (Int.gcd g x : Int)) c.k = contN ns) ⟨0, _⟩ (by kst_all) ⟨vs, ns, rfl, hi, rfl⟩ ?_ ?_
  · rintro q r c u v s1 ⟨us, ms, e, hu9, hc⟩ hq F2
    refine AllObj.cons fun o ho => AllObj.nil ?_
    intro N2 Qt hUt hUr
    cases hu9 with
    | nil => cases e
    | cons n t hu8 =>
      cases e
      have hv : v = .int n t := hq
      subst hv
      k_steps
      exact hUt (for_end (⟨_, _⟩ : SI) (by assumption) (by assumption) (by simp [SubL]) trivial trivial trivial (by kst_all) (by ksw_same) ⟨_, _, rfl, hu8, hc⟩)
  · rintro c u h tk ⟨us, ms, e, hu9, hc⟩ F2 N2
    cases hu9 with
    | nil =>
      k_steps
      refine hQb F2 ⟨c.t, ?_⟩
      show Value.int c.k c.t = _
      rw [← hc]; rfl
    | cons n t hu8 => cases e
end
/-! zcontent -/
section
local macro_rules | `(tactic| walk_at "call ref") => `(tactic| ((with_unfolding_all refine' CallOk.useI (gcd_all_ok _ _ _ ?_) ?B ?F ?N ?X ?T ?hk ?hd ?hu ?hp ?_); walk_at "use B"; (case hp => walk_at "use L1"); walk_at "use II"))
theorem zcontent_ok (w : World) (a : Addr) (ns : List Int) (hn : ns.length < 2 ^ 20) : CallOk w 98 [.ref a] 3 (IntsAt a ns) (RetInt (contN ns)) := by
  refine enterH [("p", .ref a)] (by k_is) (by k_is) (fun _ => BindsTo.of_eq rfl) (locs rfl) rfl rfl rfl (by decide) ?_
  intro mean mg mb dp un gd h₀ s L Qb base outer hQb F N X T B hd hu ⟨vs, hl, hi⟩
  have hlen := hi.length
  k_steps
  exact hQb (by assumption) ⟨_, rfl⟩
end
/-! zprimitive -/
section
local macro_rules | `(tactic| walk_at "call ref") => `(tactic| ((with_unfolding_all refine' CallOk.useI (zcontent_ok _ _ _ ?_) ?B ?F ?N ?X ?T ?hk ?hd ?hu ?hp ?_); walk_at "use B"; (case hp => walk_at "use L1"); walk_at "use II"))
local macro_rules | `(tactic| walk_at "call ref") => `(tactic| ((with_unfolding_all refine' CallOk.useL (zdivided_ok _ _ _ _ _ ?_ ?_) ?B ?F ?N ?X ?T ?hk ?hd ?hu ?hp ?_); walk_at "use B"; (case hp => walk_at "use L1"); walk_at "use LI"))
theorem getD_neg1 (ns : List Int) (h : ns ≠ []) : ns.getD (-1 + (ns.length : Int)).toNat 0 = ns.getLastD 0 := by
  have h0 := List.length_pos_iff.mpr h
  have e : (-1 + (ns.length : Int)).toNat = ns.length - 1 := by omega
  rw [e, List.getLastD_eq_getLast?, List.getLast?_eq_getElem?, List.getD_eq_getElem?_getD]
theorem zprimitive_ok (w : World) (a : Addr) (ns : List Int) (hn : ns.length < 2 ^ 20) (hc : ns ≠ [] → contN ns ≠ 0) : CallOk w 110 [.ref a] 112 (IntsAt a ns) (RetInts (primN ns)) := by
  refine enterH [("p", .ref a)] (by k_is) (by k_is) (fun _ => BindsTo.of_eq rfl) (locs rfl) rfl rfl rfl (by decide) ?_
  intro mean mg mb dp un gd h₀ s L Qb base outer hQb F N X T B hd hu ⟨vs, hl, hi⟩
  have hlen := hi.length
  have ne : ((ns.length : Int) ≠ 0) → ns ≠ [] := by
    intro h e
    rw [e] at h
    exact h rfl
  unfold primN at hQb
  k_steps
  · rename News _ _ _ _ => N1
    have e : ns = [] := List.eq_nil_of_length_eq_zero (by omega)
    rw [if_pos e] at hQb
    exact hQb (by assumption) (RetInts.of N1 (.head _) .nil)
  · exact hc (ne (by assumption))
  · rename News _ _ _ _ => N1
    have h1 := ne (by assumption)
    have h2 : 0 < ns.getD (-1 + (ns.length : Int)).toNat 0 := by assumption
    rw [getD_neg1 ns h1] at h2
    rw [if_neg h1, if_pos h2] at hQb
    exact hQb (by assumption) (RetInts.of N1 (.head _) (by assumption))
  · have := hc (ne (by assumption))
    omega
  · rename News _ _ _ _ => N1
    have h1 := ne (by assumption)
    have h2 : ¬ 0 < ns.getD (-1 + (ns.length : Int)).toNat 0 := by assumption
    rw [getD_neg1 ns h1] at h2
    rw [if_neg h1, if_neg h2] at hQb
    exact hQb (by assumption) (RetInts.of N1 (.head _) (by assumption))
end
/-! next_height -/
section
local macro_rules | `(tactic| walk_at "binaryOp FloorDiv int int") => `(tactic| refine floordiv_int ?_ ?_ (Or.inr (PylongRoom.of (Heap.NoLimit.keeps (Top.nolimit (by assumption)) (Fr.keep (by assumption))) (by show _ + 100 < 1000; (simp only [recursionLimit] at *); omega) (SeerAt.of (Heap.NoSeer.keeps (Top.seer (by assumption) (by decide +kernel)) (Fr.keep (by assumption))) rfl rfl rfl rfl rfl rfl))))
local macro_rules | `(tactic| walk_at "binaryOp Pow int int") => `(tactic| refine pow_int ?_ ?_ ?_)
local macro_rules | `(tactic| walk_at "no such") => `(tactic| skip)
theorem next_height_ok (w : World) (f k h : Int) (t1 t2 t3 : Tok) (h0 : 0 ≤ k) (hk : k < 10) (hf : Builtin.Int.intBits f ≤ 1000000) (hh : Builtin.Int.intBits h ≤ 1000000) (hne : h ≠ 0) : CallOk w 138 [.int f t1, .int k t2, .int h t3] 111 (fun _ => True) (RetInt (nextH f k.toNat h)) := by
  refine enterH [("front", .int f t1), ("step", .int k t2), ("height", .int h t3)] (by k_is) (by k_is) (fun _ => BindsTo.of_eq rfl) (locs rfl) rfl rfl rfl (by decide) ?_
  intro mean mg mb dp un gd h₀ s L Qb base outer hQb F N X T B hd hu _
  unfold nextH at hQb
  k_steps
  · have e : k = 0 := by assumption
    rw [if_pos (by omega)] at hQb
    exact hQb F ⟨t3, rfl⟩
  · have : (Builtin.Int.intBits f : Int) * k ≤ 1000000 * 10 := Int.mul_le_mul (by omega) (by omega) h0 (by omega)
    omega
  · have e : k ≠ 0 := by assumption
    have : (Builtin.Int.intBits h : Int) * (k - 1) ≤ 1000000 * 10 := Int.mul_le_mul (by omega) (by omega) (by omega) (by omega)
    omega
  · exact Int.pow_ne_zero hne
  · have e : k ≠ 0 := by assumption
    rw [if_neg (by omega)] at hQb
    have e2 : (k - 1).toNat = k.toNat - 1 := by omega
    rw [← e2] at hQb
    exact hQb F ⟨_, rfl⟩
end
end Mine
end

section
open PySem PySem.W PySem.Calls PySem.Spec PyProof.Rows
namespace Mine
set_option maxRecDepth 100000
set_option maxHeartbeats 4000000
theorem fill_frag_W3 : (fun (_ : OpenLaw) (_ : Params → Frag) => True) PySem.Challenge.rw_pf0034_01 hd.heap_39 := by k_fill; trivial
/-! pseudo -/
theorem mul_room (c m k : Nat) (h : m + 1 ≤ c) : c * (k + 1) + m + 1 ≤ c * (k + 1 + 1) := by
  rw [Nat.mul_succ c (k + 1), Nat.add_assoc]
  exact Nat.add_le_add_left h _
structure PS where
  r : Addr
  vs : List Value
  n : Nat
  ns : List Int
  rf : Addr
  vf : List Value
  nf : Nat
  fs : List Int
  left : Int
  tl : Tok
def PseudoPost (ns ms : List Int) (h : Heap) (v : Value) (h' : Heap) : Prop :=
  ∃ T f1 r1 vs n tk many, v = .ref T ∧ h.get? T = none ∧ h'.get? T = some { cls := .type "tuple", data := .seq #[.ref f1, .ref r1, .int many tk] } ∧ h.get? r1 = none ∧ h'.get? r1 = some (lst vs n) ∧ IntsAre vs (premN ns ms)
section
local macro_rules | `(tactic| walk_at "call ref") => `(tactic| ((with_unfolding_all refine' CallOk.useN (check_bottom_ok _ _ _ ?_ ?_) ?B ?F ?N ?X ?T ?hk ?hd ?hu ?hp ?_); walk_at "use B"; (case hp => walk_at "use L1"); walk_at "use NI"))
local macro_rules | `(tactic| walk_at "call ref") => `(tactic| ((with_unfolding_all refine' CallOk.useI (zlead_ok _ _ _ ?_) ?B ?F ?N ?X ?T ?hk ?hd ?hu ?hp ?_); walk_at "use B"; (case hp => walk_at "use L1"); walk_at "use II"))
local macro_rules | `(tactic| walk_at "call ref") => `(tactic| ((with_unfolding_all refine' CallOk.useL (zscale_ok _ _ _ _ _ ?_ ?_ ?_) ?B ?F ?N ?X ?T ?hk ?hd ?hu ?hp ?_); walk_at "use B"; (case hp => walk_at "use L1"); walk_at "use LI"))
local macro_rules | `(tactic| walk_at "call ref") => `(tactic| ((with_unfolding_all refine' CallOk.useL (zraise_ok _ _ _ _ _ ?_ ?_ ?_) ?B ?F ?N ?X ?T ?hk ?hd ?hu ?hp ?_); walk_at "use B"; (case hp => walk_at "use L1"); walk_at "use LI"))
local macro_rules | `(tactic| walk_at "call ref") => `(tactic| ((with_unfolding_all refine' CallOk.useL (zsub_ok _ _ _ _ _ ?_ ?_) ?B ?F ?N ?X ?T ?hk ?hd ?hu ?hp ?_); walk_at "use B"; (case hp => walk_at "use L2"); walk_at "use LI"))
local macro_rules | `(tactic| walk_at "exec While Compare cons nil") => `(tactic| refine Stop.out ?_)
local macro_rules | `(tactic| walk_at "binaryOp Pow int int") => `(tactic| refine pow_int ?_ ?_ ?_)
theorem pseudo_ok (w : World) (a b : Addr) (ns ms : List Int) (hn : ns.length ≤ 8) (hm : ms.length ≤ 8) (hb0 : ms ≠ []) (hbl : ms.getLastD 0 ≠ 0) (sn : Sm 1000000 ns) (sm : Sm 1000000 ms) :
    CallOk w 124 [.ref a, .ref b] 4 (fun h => IntsAt a ns h ∧ IntsAt b ms h) (PseudoPost ns ms) := by
  refine enterH [("a", .ref a), ("b", .ref b)] (by k_is) (by k_is) (fun _ => BindsTo.of_eq rfl) (locs rfl) rfl rfl rfl (by decide) ?_
  intro mean mg mb dp un gd h₀ s L Qb base outer hQb F N X T B hd hu ⟨⟨vs, hl, hi⟩, ⟨us, hl', hi'⟩⟩
  have hlen := hi.length
  have hlen' := hi'.length
  k_steps
  · exact hb0
  refine Stop.mk ?_
  rename Fr _ _ _ _ => F1
  rename News _ _ _ _ => N1
  have sf := sm.last
  have hms := List.length_pos_iff.mpr hb0
  refine ksw_whileH (σ := PS) (fun c => [(c.r, lst c.vs c.n), (c.rf, lst c.vf c.nf)]) (fun c => [("rest", .ref c.r), ("found", .ref c.rf), ("left", .int c.left c.tl)]) (fun c => IntsAre c.vs c.ns ∧ IntsAre c.vf c.fs) ["number", "power"]
    (fun c => ∃ l k fuel : Nat, c.left = l ∧ c.ns.length ≤ fuel ∧ k + c.ns.length ≤ 8 ∧ c.ns.length + 1 ≤ l + ms.length ∧ l ≤ 9 ∧ c.fs.length ≤ 16 ∧ Sm (1000002 * (k + 1)) c.ns ∧ Sm (1000002 * (k + 1)) c.fs ∧ pgo ms (ms.getLastD 0) fuel c.ns l = premN ns ms) (fun c => c.ns.length)
    ⟨_, vs, _, ns, _, [], _, [], _, _⟩ F1 (kst_newsOf N1 (List.forall_mem_cons.mpr ⟨.tail _ (.tail _ (.head _)), List.forall_mem_cons.mpr ⟨.tail _ (.head _), fun _ h => nomatch h⟩⟩)) ⟨hi, .nil⟩ (by kst_all) ?_ ?_
  · refine ⟨ns.length + 1 - ms.length, 0, ns.length, ?_, Nat.le_refl _, ?_, ?_, ?_, ?_, sn.mono (by decide), (fun _ h => nomatch h), rfl⟩
    · dsimp only; split <;> omega
    all_goals (first | omega | (dsimp only; omega) | (simp; done))
  · clear F1 N1
    intro c ku s1 Qt Qf hUt hUr hUf kFa kP kF kN
    obtain ⟨hI1, hI2⟩ := kFa
    obtain ⟨l, k, fuel, p1, p2, p3, p4, p5, p6, p7, p8, p9⟩ := kP
    have hl1 := hI1.length
    have hl2 := hI2.length
    have hS1 : Sm 60000000 c.ns := p7.mono (by omega)
    have hS2 : Sm 60000000 c.fs := p8.mono (by omega)
    have hS3 : Sm 60000000 ms := sm.mono (by omega)
    have sf6 : Builtin.Int.intBits (ms.getLastD 0) ≤ 60000000 := by omega
    k_steps
    · exact hS2
    · exact Nat.lt_of_le_of_lt (scaleN_len _ _) (by omega)
    · exact Nat.lt_of_le_of_lt (raiseN_len _ _) (by simp only [List.length_cons, List.length_nil]; omega)
    · exact hS1
    · exact hS3
    · exact Sm.getD hS1 _
    · exact Nat.lt_of_le_of_lt (scaleN_len _ _) (by omega)
    · exact Nat.lt_of_le_of_lt (scaleN_len _ _) (by omega)
    · have q1 := raiseN_len (scaleN ms (c.ns.getD (-1 + (c.ns.length : Int)).toNat 0)) ((c.ns.length : Int) - (ms.length : Int)).toNat
      have q2 := scaleN_len ms (c.ns.getD (-1 + (c.ns.length : Int)).toNat 0)
      omega
    · have hle : ms.length ≤ c.ns.length := by omega
      have hne : c.ns ≠ [] := List.length_pos_iff.mp (by omega)
      rename IntsAre _ (subN (scaleN c.ns _) _) => hR
      rename IntsAre _ (subN (scaleN c.fs _) _) => hQ
      have e1 : ((c.ns.length : Int) - (ms.length : Int)).toNat = c.ns.length - ms.length := by omega
      rw [getD_neg1 _ hne, e1] at hR hQ
      have hlen9 := pstep_len hb0 rfl hbl hle
      obtain ⟨fuel', rfl⟩ : ∃ m, fuel = m + 1 := ⟨fuel - 1, by omega⟩
      rw [pgo_go hle] at p9
      refine hUt (ksw_end (⟨_, _, _, pstep ms (ms.getLastD 0) c.ns, _, _, _, _, c.left - 1, _⟩ : PS) (by assumption) (by assumption) (by kst_in) ⟨hR, hQ⟩ (by kst_all) (by ksw_same) ⟨l - 1, k + 1, fuel', ?_, ?_, ?_, ?_, ?_, ?_, ?_, ?_, p9⟩ ?_)
      all_goals (try dsimp only)
      · omega
      · omega
      · omega
      · omega
      · omega
      · exact Nat.le_trans (subN_len _ _) (Nat.max_le.mpr ⟨Nat.le_trans (scaleN_len _ _) p6, Nat.le_trans (raiseN_len _ _) (by simp only [List.length_cons, List.length_nil]; omega)⟩)
      · exact (Sm.pstep sm sf p7).mono (mul_room 1000002 1000000 k (by decide))
      · refine (Sm.sub (Sm.mono (p8.scale sf) (Nat.le_refl _)) (Sm.raise (Sm.mono (?_ : Sm (1000002 * (k + 1)) _) (Nat.le_add_right _ _)))).mono (mul_room 1000002 1000000 k (by decide))
        intro x hx
        rw [List.mem_singleton.mp hx]
        exact intBits_neg_le p7.last
      · omega
    · refine hUf ?_
      k_steps
      · rw [p1]
        have : (Builtin.Int.intBits (ms.getLastD 0) : Int) * (l : Int) ≤ 1000000 * 9 := Int.mul_le_mul (by omega) (by omega) (by omega) (by omega)
        omega
      · exact hS2
      · have h1 := intBits_pow_le sf c.left.toNat
        have h2 : 1000000 * c.left.toNat ≤ 1000000 * 9 := Nat.mul_le_mul_left _ (by omega)
        omega
      · exact hS1
      · have h1 := intBits_pow_le sf c.left.toNat
        have h2 : 1000000 * c.left.toNat ≤ 1000000 * 9 := Nat.mul_le_mul_left _ (by omega)
        omega
      · rename News _ _ _ _ => N1
        rename IntsAre _ (scaleN c.ns _) => hR
        rw [pgo_stop (by omega)] at p9
        have e1 : c.left.toNat = l := by omega
        rw [e1, p9] at hR
        exact hQb (by assumption) ⟨_, _, _, _, _, _, _, rfl, (N1 _ (.head _)).2.2, (N1 _ (.head _)).1, (N1 _ (.tail _ (.head _))).2.2, (N1 _ (.tail _ (.head _))).1, hR⟩
end
/-! zpseudo_rest -/
section
local macro_rules | `(tactic| walk_at "call ref") => `(tactic| ((with_reducible show wpAny _ _ (call (Value.ref 124) [Value.ref _, Value.ref _]) _ _ _); refine Stop.out ?_))
theorem zpseudo_rest_ok (w : World) (a b : Addr) (ns ms : List Int) (hn : ns.length ≤ 8) (hm : ms.length ≤ 8) (hb0 : ms ≠ []) (hbl : ms.getLastD 0 ≠ 0) (sn : Sm 1000000 ns) (sm : Sm 1000000 ms) :
    CallOk w 131 [.ref a, .ref b] 5 (fun h => IntsAt a ns h ∧ IntsAt b ms h) (RetInts (premN ns ms)) := by
  refine enterH [("a", .ref a), ("b", .ref b)] (by k_is) (by k_is) (fun _ => BindsTo.of_eq rfl) (locs rfl) rfl rfl rfl (by decide) ?_
  intro mean mg mb dp un gd h₀ s L Qb base outer hQb F N X T B hd hu ⟨⟨vs, hl, hi⟩, ⟨us, hl', hi'⟩⟩
  have hlen := hi.length
  have hlen' := hi'.length
  k_steps
  refine Stop.mk ?_
  refine CallOk.use (pseudo_ok w a b ns ms hn hm hb0 hbl sn sm) B F N X T rfl (by show _ < 1000; (simp only [recursionLimit] at *); omega) (by show _ < 9900; (simp only [cLine] at *); omega) ⟨⟨vs, hl.at fun o e => F.keep _ o e, hi⟩, ⟨us, hl'.at fun o e => F.keep _ o e, hi'⟩⟩ ?_
  intro v h2 tk2 F2 N2 hk2 hp2
  obtain ⟨T1, f1, r1, vs1, n1, tk1, many, rfl, q1, q2, q3, q4, q5⟩ := hp2
  have N3 := News.put F (News.put F N2 q3 q4) q1 q2
  clear N2
  k_steps
  exact hQb (by assumption) (RetInts.of N3 (.tail _ (.head _)) q5)
end
end Mine
end

section
open PySem PySem.W PySem.Calls PySem.Spec PyProof.Rows
namespace Mine
set_option maxRecDepth 100000
set_option maxHeartbeats 4000000
theorem fill_frag_W4 : (fun (_ : OpenLaw) (_ : Params → Frag) => True) PySem.Challenge.rw_pf0034_01 hd.heap_39 := by k_fill; trivial
/-! subresultants -/
structure SS where
  a : Addr
  va : List Value
  as : List Int
  b : Addr
  vb : List Value
  bs : List Int
  R : Addr
  rvs : List Value
  nR : Nat
  rows : List (List Int)
  f : Int
  tf : Tok
  h : Int
  th : Tok
  led : List (Addr × Obj)
def SwapPost (h₀ : Heap) (s : Shared) (L : Addr) (ns ms : List Int) (fl : Flow) (s' : Shared) : Prop :=
  fl = Flow.next ∧ ∃ (a' b' : Addr) (va vb : List Value) (as bs : List Int) (h' : Heap) (tk' : Nat), s' = { s with heap := h', toks := tk' } ∧ Fr h₀ L h' (kstB (fun _ => none) [("a", .ref a'), ("b", .ref b')]) ∧ News h₀ L h' [] ∧
    h₀.IsList a' va.toArray ∧ IntsAre va as ∧ h₀.IsList b' vb.toArray ∧ IntsAre vb bs ∧ subresO as bs = subresN ns ms ∧ FineO as bs ∧ bs.length ≤ as.length ∧ as.length ≤ 8
section
local macro_rules | `(tactic| walk_at "call ref") => `(tactic| ((with_unfolding_all refine' CallOk.useL (zpseudo_rest_ok _ _ _ _ _ ?_ ?_ ?_ ?_ ?_ ?_) ?B ?F ?N ?X ?T ?hk ?hd ?hu ?hp ?_); walk_at "use B"; (case hp => walk_at "use L2"); walk_at "use LI"))
local macro_rules | `(tactic| walk_at "call ref") => `(tactic| ((with_unfolding_all refine' CallOk.useL (zdivided_ok _ _ _ _ _ ?_ ?_) ?B ?F ?N ?X ?T ?hk ?hd ?hu ?hp ?_); walk_at "use B"; (case hp => walk_at "use L1"); walk_at "use LI"))
local macro_rules | `(tactic| walk_at "call ref") => `(tactic| ((with_unfolding_all refine' CallOk.useI (zlead_ok _ _ _ ?_) ?B ?F ?N ?X ?T ?hk ?hd ?hu ?hp ?_); walk_at "use B"; (case hp => walk_at "use L1"); walk_at "use II"))
local macro_rules | `(tactic| walk_at "call ref") => `(tactic| ((with_unfolding_all refine' CallOk.useI (next_height_ok _ _ _ _ _ _ _ ?_ ?_ ?_ ?_ ?_) ?B ?F ?N ?X ?T ?hk ?hd ?hu ?hp ?_); walk_at "use B"; (case hp => trivial); walk_at "use II"))
local macro_rules | `(tactic| is_list) => `(tactic| exact AtL.isList (by assumption) (by assumption) (by assumption) (by (intro p hp; repeat (first | exact hp | apply List.Mem.tail))))
local macro_rules | `(tactic| walk_at "exec While Compare cons nil") => `(tactic| refine Stop.out ?_)
local macro_rules | `(tactic| walk_at "exec If Compare cons nil") => `(tactic| ((with_reducible show wpAny _ _ (exec (Stmt.If _ [Stmt.Assign _ _ _] _ _) _) _ _ _); (fail_if_success (with_reducible show wpAny _ _ _ (SwapPost _ _ _ _ _) _ _)); refine Stop.out ?_))
local macro_rules | `(tactic| walk_at "call builtin:list.append") => `(tactic| refine Stop.out ?_)
local macro_rules | `(tactic| walk_at "binaryOp Pow int int") => `(tactic| refine pow_int ?_ ?_ ?_)
local macro_rules | `(tactic| walk_at "binaryOp Mult int int") => `(tactic| refine P.mul_int ?_ ?_)
theorem subresultants_ok (w : World) (a b : Addr) (ns ms : List Int) (hn : ns.length ≤ 8) (hm : ms.length ≤ 8) (hf : FineN ns ms) :
    CallOk w 145 [.ref a, .ref b] 113 (fun h => IntsAt a ns h ∧ IntsAt b ms h) (RetRows (subresN ns ms)) := by
  refine enterH [("a", .ref a), ("b", .ref b)] (by k_is) (by k_is) (fun _ => BindsTo.of_eq rfl) (locs rfl) rfl rfl rfl (by decide) ?_
  intro mean mg mb dp un gd h₀ s L Qb base outer hQb F N X T B hd hu ⟨⟨vs, hl, hi⟩, ⟨us, hl', hi'⟩⟩
  have hlen := hi.length
  have hlen' := hi'.length
  k_steps
  refine Stop.mk (wpAny_mono (Q := SwapPost h₀ s L ns ms) (E := fun _ _ => False) ?_ ?_ (fun _ _ x => x))
  · k_steps
    · have hlt : ns.length < ms.length := by omega
      rename News _ _ _ _ => N2
      rename Fr _ _ _ _ => F2
      refine ⟨rfl, b, a, us, vs, ms, ns, _, _, rfl, ?_, kst_newsOf N2 (fun _ h => nomatch h), hl', hi', hl, hi, by unfold subresN; rw [if_pos hlt], by unfold FineN at hf; rw [if_pos hlt] at hf; exact hf, by omega, hm⟩
      exact Fr.as F2 (swap2 (by decide))
    · have hlt : ¬ ns.length < ms.length := by omega
      refine ⟨rfl, a, b, vs, us, ns, ms, _, _, rfl, ?_, N, hl, hi, hl', hi', by unfold subresN; rw [if_neg hlt], by unfold FineN at hf; rw [if_neg hlt] at hf; exact hf, by omega, hn⟩
      exact Fr.as F (funext (look2 (by decide)))
  clear F N hl hi hl' hi' hlen hlen'
  rintro _ _ ⟨rfl, a', b', va, vb, as, bs, h2, tk2, rfl, F2, N2, hl, hi, hl', hi', hs, hfine, hle, hle8⟩
  have hlen := hi.length
  have hlen' := hi'.length
  dsimp only
  k_steps
  refine Stop.mk ?_
  rename Fr _ _ _ _ => F3
  rename News _ _ _ _ => N3
  rename_i D4 c4 l4 D3 c3 l3 l5 hh5 D5 l6 hh6 hh7 hh8 hh9 tt9
  refine ksw_whileH (σ := SS) (fun c => (c.R, lst c.rvs c.nR) :: c.led) (fun c => [("a", .ref c.a), ("b", .ref c.b), ("row", .ref c.R), ("front", .int c.f c.tf), ("height", .int c.h c.th)])
    (fun c => AtL h₀ c.led c.a c.va ∧ IntsAre c.va c.as ∧ AtL h₀ c.led c.b c.vb ∧ IntsAre c.vb c.bs ∧ RowsL c.led c.rvs c.rows ∧ ∀ p ∈ c.led, p.1 ≠ c.R) ["step", "rest"]
    (fun c => ∃ fuel : Nat, Fine fuel c.as c.bs c.f c.h ∧ subGo fuel c.as c.bs c.rows c.f c.h = subresN ns ms ∧ c.bs.length ≤ fuel ∧ c.as.length ≤ 8 ∧ c.bs.length ≤ c.as.length ∧ c.bs.length + c.rows.length ≤ 10) (fun c => c.bs.length)
    ⟨a', va, as, b', vb, bs, _, [_, _], _, [as, bs], 1, _, 1, _, [_, _]⟩ F3 (kst_newsOf N3 (List.forall_mem_cons.mpr ⟨.tail _ (.head _), List.forall_mem_cons.mpr ⟨.tail _ (.tail _ (.tail _ (.head _))), List.forall_mem_cons.mpr ⟨.tail _ (.tail _ (.head _)), fun _ h => nomatch h⟩⟩⟩)) ?_ (by kst_all) ?_ ?_
  · exact ⟨.inl hl, hi, .inl hl', hi', .cons (.head _) hi (.cons (.tail _ (.head _)) hi' .nil), List.forall_mem_cons.mpr ⟨by k_ne, List.forall_mem_cons.mpr ⟨by k_ne, fun _ h => nomatch h⟩⟩⟩
  · exact ⟨bs.length, hfine, hs, Nat.le_refl _, hle8, hle, by simp; omega⟩
  · clear F3 N3
    intro c ku s1 Qt Qf hUt hUr hUf kFa kP kF kN
    obtain ⟨q1, q2, q3, q4, q5, q6⟩ := kFa
    obtain ⟨fuel, p1, p2, p3, p4, p5, p6⟩ := kP
    have hl1 := q2.length
    have hl2 := q4.length
    have hpl := premN_len c.as c.bs
    k_steps
    · exact List.length_pos_iff.mp (by omega)
    · obtain ⟨_, rfl, z, _⟩ := fine_go p1 (by omega)
      exact z.2.2.1
    · obtain ⟨_, rfl, z, _⟩ := fine_go p1 (by omega)
      exact z.2.2.2.1
    · obtain ⟨_, rfl, z, _⟩ := fine_go p1 (by omega)
      exact z.2.2.2.2.1
    · have e : premN c.as c.bs = [] := List.eq_nil_of_length_eq_zero (by omega)
      rw [subGo_end e] at p2
      rename News _ _ _ _ => N4
      have hm := N4 (c.R, lst c.rvs c.nR) (.tail _ (.head _))
      exact hUr (hQb (by assumption) ⟨c.R, c.rvs, c.nR, c.led, rfl, hm.2.2, hm.1, p2 ▸ q5, fun p hp => ⟨(N4 p (.tail _ (.tail _ hp))).2.2, (N4 p (.tail _ (.tail _ hp))).1⟩⟩)
    · obtain ⟨_, rfl, z, _⟩ := fine_go p1 (by omega)
      have z8 := z.2.2.2.2.2.2.1
      have : (Builtin.Int.intBits c.h : Int) * ((c.as.length : Int) - c.bs.length) ≤ 1000000 * 10 := Int.mul_le_mul (by omega) (by omega) (by omega) (by omega)
      omega
    · obtain ⟨_, rfl, z, _⟩ := fine_go p1 (by omega)
      exact Int.mul_ne_zero z.2.2.2.2.2.2.2.2 (Int.pow_ne_zero z.2.2.2.2.2.2.2.1)
    · have hb1 : 1 < c.bs.length := by omega
      have hpn : premN c.as c.bs ≠ [] := by
        intro e
        have h0 : ((premN c.as c.bs).length : Int) ≠ 0 := by assumption
        rw [e] at h0
        exact h0 rfl
      obtain ⟨k, rfl, z, z2⟩ := fine_go p1 hb1
      obtain ⟨y1, y2⟩ := z2 hpn
      have est : ((c.as.length : Int) - (c.bs.length : Int)).toNat = c.as.length - c.bs.length := by omega
      rename News _ _ _ _ => N4
      rename Fr _ _ _ _ => F4
      rename (∀ (p : Addr × Obj), p ∈ _ :: (c.R, lst c.rvs c.nR) :: c.led → _) => hnB
      rename (∀ (p : Addr × Obj), p ∈ (c.R, lst c.rvs c.nR) :: c.led → _) => hnA
      rename IntsAre _ (divN _ _) => hiD
      rw [est] at hiD
      refine Stop.mk (append_K F4 N4 (Upd.tail (by k_ne) (Upd.tail (Ne.symm (hnB _ (.tail _ (.head _)))) (Upd.tail (Ne.symm (hnA _ (.head _))) (Upd.head q6)))) ?_ (by simp only [List.size_toArray, q5.len, sizeLine_eq]; omega))
      intro h5 F5 N5
      clear N4 F4
      simp only [List.push_toArray] at N5
      k_steps
      · exact z.2.2.2.2.1.last
      · exact z.2.2.2.2.2.2.2.1
      · refine hUt (ksw_end (⟨c.b, c.vb, c.bs, _, _, divN (premN c.as c.bs) (c.f * c.h ^ (c.as.length - c.bs.length)), c.R, _, c.nR + 1, c.rows ++ [divN (premN c.as c.bs) (c.f * c.h ^ (c.as.length - c.bs.length))], c.bs.getLastD 0, _, nextH (c.bs.getLastD 0) ((c.as.length : Int) - (c.bs.length : Int)).toNat c.h, _, _ :: c.led⟩ : SS) (by assumption) (by assumption)
          (List.forall_mem_cons.mpr ⟨.tail _ (.tail _ (.tail _ (.head _))), List.forall_mem_cons.mpr ⟨.tail _ (.head _), fun p hp => .tail _ (.tail _ (.tail _ (.tail _ hp)))⟩⟩) ⟨q3.mono fun p hp => .tail _ hp, q4, .inr ⟨_, .head _⟩, hiD, (q5.mono fun p hp => .tail _ hp).snoc (.head _) hiD, List.forall_mem_cons.mpr ⟨Ne.symm (hnB _ (.tail _ (.head _))), q6⟩⟩ (by kst_all) (by ksw_same) ?_ ?_)
        · rw [subGo_go hb1 hpn] at p2
          dsimp only
          rw [est]
          exact ⟨k, y2, p2, by rw [divN_len]; omega, by omega, by rw [divN_len]; omega, by rw [divN_len, List.length_append]; simp only [List.length_cons, List.length_nil]; omega⟩
        · dsimp only
          rw [divN_len]
          exact y1
    · obtain ⟨_, rfl, z, _⟩ := fine_go p1 (by omega)
      have h1 := intBits_pow_le z.2.2.2.2.2.2.1 ((c.as.length : Int) - c.bs.length).toNat
      have h2 : 1000000 * ((c.as.length : Int) - c.bs.length).toNat ≤ 1000000 * 10 := Nat.mul_le_mul_left _ (by omega)
      exact IntMulOk.of_le (m := 1000000) (n := 1000000 * 10 + 1) z.2.2.2.2.2.1 (by omega) (by decide)
    · refine hUf ?_
      k_steps
      have hm := kN (c.R, lst c.rvs c.nR) (.head _)
      rw [subGo_stop (by omega)] at p2
      exact hQb (by assumption) ⟨c.R, c.rvs, c.nR, c.led, rfl, hm.2.2, hm.1, p2 ▸ q5, fun p hp => ⟨(kN p (.tail _ hp)).2.2, (kN p (.tail _ hp)).1⟩⟩
end
end Mine
end

section
open PySem PySem.W PySem.Calls PySem.Spec PyProof.Rows
namespace Mine
set_option maxRecDepth 100000
set_option maxHeartbeats 4000000
theorem fill_frag_W5 : (fun (_ : OpenLaw) (_ : Params → Frag) => True) PySem.Challenge.rw_pf0034_01 hd.heap_39 := by k_fill; trivial
/-! zgcd -/
section
local macro_rules | `(tactic| walk_at "call ref") => `(tactic| ((with_unfolding_all refine' CallOk.useL (zscale_ok _ _ _ _ _ ?_ ?_ ?_) ?B ?F ?N ?X ?T ?hk ?hd ?hu ?hp ?_); walk_at "use B"; (case hp => walk_at "use L1"); walk_at "use LI"))
local macro_rules | `(tactic| walk_at "call ref") => `(tactic| ((with_unfolding_all refine' CallOk.useL (zprimitive_ok _ _ _ ?_ ?_) ?B ?F ?N ?X ?T ?hk ?hd ?hu ?hp ?_); walk_at "use B"; (case hp => walk_at "use L1"); walk_at "use LI"))
local macro_rules | `(tactic| walk_at "call ref") => `(tactic| ((with_unfolding_all refine' CallOk.useI (zcontent_ok _ _ _ ?_) ?B ?F ?N ?X ?T ?hk ?hd ?hu ?hp ?_); walk_at "use B"; (case hp => walk_at "use L1"); walk_at "use II"))
local macro_rules | `(tactic| walk_at "call ref") => `(tactic| ((with_unfolding_all refine' CallOk.useI (gcd_ok _ _ _ _ _) ?B ?F ?N ?X ?T ?hk ?hd ?hu ?hp ?_); walk_at "use B"; (case hp => trivial); walk_at "use II"))
local macro_rules | `(tactic| walk_at "call ref") => `(tactic| ((with_unfolding_all refine' CallOk.useR (subresultants_ok _ _ _ _ _ ?_ ?_ ?_) ?B ?F ?N ?X ?T ?hk ?hd ?hu ?hp ?_); walk_at "use B"; (case hp => walk_at "use L2"); walk_at "use RI"))
local macro_rules | `(tactic| is_list) => `(tactic| exact AtL.isList (by assumption) (by assumption) (by assumption) (by (intro p hp; repeat (first | exact hp | exact List.mem_append_left _ hp | apply List.Mem.tail))))
local macro_rules | `(tactic| walk_at "subscriptTail Name UnaryOp ref int") => `(tactic| ((refine item_row_neg (News.isList (by assumption) (.head _)) (by assumption) (subresN_ne _ _) ?_); intro r9 vs9 n9 hm9 hi9; have hA9 := AtL.new (by assumption) hm9))
theorem zgcd_ok (w : World) (a b : Addr) (ns ms : List Int) (hf : GFine ns ms) : CallOk w 152 [.ref a, .ref b] 114 (fun h => IntsAt a ns h ∧ IntsAt b ms h) (RetInts (zgcdN ns ms)) := by
  obtain ⟨f1, f2, f3, f4, f5, f6, f7⟩ := hf
  refine enterH [("a", .ref a), ("b", .ref b)] (by k_is) (by k_is) (fun _ => BindsTo.of_eq rfl) (locs rfl) rfl rfl rfl (by decide) ?_
  intro mean mg mb dp un gd h₀ s L Qb base outer hQb F N X T B hd hu ⟨⟨vs, hl, hi⟩, ⟨us, hl', hi'⟩⟩
  have hlen := hi.length
  have hlen' := hi'.length
  have nea : ns ≠ [] → (ns.length : Int) ≠ 0 := fun h e => h (List.eq_nil_of_length_eq_zero (by omega))
  have neb : ms ≠ [] → (ms.length : Int) ≠ 0 := fun h e => h (List.eq_nil_of_length_eq_zero (by omega))
  by_cases ea : ns = []
  · have ea' : (ns.length : Int) = 0 := by rw [ea]; rfl
    k_steps
    all_goals first
      | exact f6 (by assumption)
      | (rw [primN_len]; omega)
      | exact f4.prim
      | exact contN_bits f4
      | (exfalso; omega)
      | skip
    unfold zgcdN at hQb
    rw [if_pos ea] at hQb
    rename News _ _ _ _ => N4
    exact hQb (by assumption) (RetInts.of N4 (.head _) (by assumption))
  by_cases eb : ms = []
  · have eb' : (ms.length : Int) = 0 := by rw [eb]; rfl
    have ea' := nea ea
    k_steps
    all_goals first
      | exact f5 (by assumption)
      | (rw [primN_len]; omega)
      | exact f3.prim
      | exact contN_bits f3
      | (exfalso; omega)
      | skip
    unfold zgcdN at hQb
    rw [if_neg ea, if_pos eb] at hQb
    rename News _ _ _ _ => N4
    exact hQb (by assumption) (RetInts.of N4 (.head _) (by assumption))
  have ea' := nea ea
  have eb' := neb eb
  obtain ⟨g1, g2, g3, g4⟩ := f7 ea eb
  clear nea neb f7
  have ez : (subresN (primN ns) (primN ms)).getLastD [] = zlastN ns ms := rfl
  have g3' : ((subresN (primN ns) (primN ms)).getLastD []).length ≤ 8 := g3
  have g5 : Builtin.Int.intBits (Int.gcd (contN ns) (contN ms) : Int) ≤ 60000000 := by
    refine intBits_le_of_natAbs ?_ (contN_bits f3)
    have := Nat.le_of_dvd (Int.natAbs_pos.mpr (f5 ea)) (Int.natAbs_dvd_natAbs.mpr (Int.gcd_dvd_left (contN ns) (contN ms)))
    simpa using this
  k_steps
  all_goals first
    | exact f5 (by assumption)
    | exact f6 (by assumption)
    | (rw [primN_len]; omega)
    | exact f3.prim
    | exact f4.prim
    | exact contN_bits f3
    | exact contN_bits f4
    | exact g1
    | exact g2
    | exact g5
    | exact Sm.prim g4
    | (exfalso; omega)
    | skip
  · rename News _ _ _ _ => N4
    have h1 : 1 < (zlastN ns ms).length := by rw [← ez]; omega
    unfold zgcdN at hQb
    rw [if_neg ea, if_neg eb, if_pos h1] at hQb
    exact hQb (by assumption) (RetInts.of N4 (.head _) (by assumption))
  · rename News _ _ _ _ => N4
    have h1 : ¬ 1 < (zlastN ns ms).length := by rw [← ez]; omega
    unfold zgcdN at hQb
    rw [if_neg ea, if_neg eb, if_neg h1] at hQb
    exact hQb (by assumption) (RetInts.of N4 (.head _) (.cons _ _ .nil))
end
end Mine
end

section
open PySem PySem.W PySem.Calls PySem.Spec PyProof.Rows
namespace Mine
set_option maxRecDepth 100000
set_option maxHeartbeats 4000000
theorem fill_frag_W6 : (fun (_ : OpenLaw) (_ : Params → Frag) => True) PySem.Challenge.rw_pf0034_01 hd.heap_39 := by k_fill; trivial
/-! zcoprime -/
section
local macro_rules | `(tactic| walk_at "call ref") => `(tactic| ((with_unfolding_all refine' CallOk.useL (zgcd_ok _ _ _ _ _ ?_) ?B ?F ?N ?X ?T ?hk ?hd ?hu ?hp ?_); walk_at "use B"; (case hp => walk_at "use L2"); walk_at "use LI"))
theorem zcoprime_ok (w : World) (a b : Addr) (ns ms : List Int) (hf : GFine ns ms) : CallOk w 166 [.ref a, .ref b] 115 (fun h => IntsAt a ns h ∧ IntsAt b ms h) (RetBool (decide ((zgcdN ns ms).length = 1))) := by
  refine enterH [("a", .ref a), ("b", .ref b)] (by k_is) (by k_is) (fun _ => BindsTo.of_eq rfl) (locs rfl) rfl rfl rfl (by decide) ?_
  intro mean mg mb dp un gd h₀ s L Qb base outer hQb F N X T B hd hu ⟨⟨vs, hl, hi⟩, ⟨us, hl', hi'⟩⟩
  have hlen := hi.length
  have hlen' := hi'.length
  have hz := zgcdN_len hf
  k_steps
  · exact hf
  · refine hQb (by assumption) (congrArg Value.bool ?_)
    by_cases h1 : (zgcdN ns ms).length = 1
    · simp [h1]
    · have h2 : ((zgcdN ns ms).length : Int) ≠ 1 := by omega
      simp [h1, h2]
end
/-! zgcd_all -/
structure LS where
  r : Addr
  vs : List Value
  n : Nat
  ns : List Int
section
local macro_rules | `(tactic| walk_at "call ref") => `(tactic| ((with_unfolding_all refine' CallOk.useL (zgcd_ok _ _ _ _ _ ?_) ?B ?F ?N ?X ?T ?hk ?hd ?hu ?hp ?_); walk_at "use B"; (case hp => walk_at "use L2"); walk_at "use LI"))
local macro_rules | `(tactic| walk_at "exec For Name Name cons nil") => `(tactic| refine Stop.out ?_)
local macro_rules | `(tactic| walk_at "pyIter ref") => `(tactic| refine Stop.out ?_)
theorem zgcd_all_ok (w : World) (a : Addr) (rows : List (List Int)) (hf : GAll [] rows) : CallOk w 159 [.ref a] 115 (RowAt a rows) (RetInts (zgcdAllN rows)) := by
  refine enterH [("row", .ref a)] (by k_is) (by k_is) (fun _ => BindsTo.of_eq rfl) (locs rfl) rfl rfl rfl (by decide) ?_
  intro mean mg mb dp un gd h₀ s L Qb base outer hQb F N X T B hd hu ⟨rvs, hl, hr⟩
  k_steps
  refine Stop.mk ?_
  rename Fr _ _ _ _ => F1
  rename News _ _ _ _ => N1
  refine For_turns F1 ?_
  k_steps
  refine Stop.mk ?_
  refine iter_list rfl F1 N1 (.inl ⟨rfl, hl⟩) (fun I hI => ?_)
  refine for_stH (σ := LS) (fun c => [(c.r, lst c.vs c.n)]) (fun c => [("found", .ref c.r)]) ["p"] (fun r c => IntsAre c.vs c.ns ∧ ∃ us ps, r = us.map Itm.val ∧ RowsAt h₀ us ps ∧ GAll c.ns ps ∧ ps.foldl zgcdN c.ns = zgcdAllN rows) ⟨_, [], _, []⟩ (by kst_all) ⟨.nil, rvs, rows, rfl, hr, hf, rfl⟩ ?_ ?_
  · rintro q r c u v s1 ⟨hIc, us, ps, e, hR, hG, hc⟩ hq F2
    refine AllObj.cons fun o ho => AllObj.nil ?_
    intro N2 Qt hUt hUr
    cases hR with
    | nil => cases e
    | cons hl1 hi1 hR1 =>
      cases e
      have hv : v = .ref _ := hq
      subst hv
      obtain ⟨hG1, hG2⟩ := hG
      have hlc := hIc.length
      k_steps
      · exact hG1
      · rename IntsAre _ (zgcdN _ _) => hQ
        exact hUt (for_end (⟨_, _, _, _⟩ : LS) (by assumption) (by assumption) ⟨.tail _ (.head _), trivial⟩ ⟨.head _, trivial⟩ (by simp [OffW, OffW1, ho]) trivial (by kst_all) (by ksw_same) ⟨hQ, _, _, rfl, hR1, hG2, hc⟩)
  · rintro c u h tk ⟨hIc, us, ps, e, hR, hG, hc⟩ F2 N2
    cases hR with
    | nil =>
      k_steps
      have e9 : c.ns = zgcdAllN rows := hc
      exact hQb F2 (RetInts.of N2 (.head _) (e9 ▸ hIc))
    | cons hl1 hi1 hR1 => cases e
end
end Mine
end

section
open PySem PySem.W PySem.Calls PySem.Spec PyProof.Rows
namespace Mine
set_option maxRecDepth 100000
set_option maxHeartbeats 4000000
theorem fill_frag_W7 : (fun (_ : OpenLaw) (_ : Params → Frag) => True) PySem.Challenge.rw_pf0034_01 hd.heap_39 := by k_fill; trivial
/-! _law_take -/
section
variable {prog : Program} {w : World} {A : Around} {E : Value → Shared → Prop} {s : Shared} {a b c : Int} {t u : Tok} {Q : Value → Shared → Prop}
theorem add_as (e : a + b = c) (h : Q (.int c s.toks) { s with toks := s.toks + 1 }) : wpAny (model prog w) A (binaryOp .Add (.int a t) (.int b u)) Q E s := P.add_int (by rw [e]; exact h)
theorem mul_as (e : a * b = c) (hm : IntMulOk a b) (h : Q (.int c s.toks) { s with toks := s.toks + 1 }) : wpAny (model prog w) A (binaryOp .Mult (.int a t) (.int b u)) Q E s := P.mul_int (by rw [e]; exact h) hm
theorem fdiv_as (e : a.fdiv b = c) (hb : b ≠ 0) (hp : Builtin.divisionGoesByPylong a b = false) (h : Q (.int c s.toks) { s with toks := s.toks + 1 }) : wpAny (model prog w) A (binaryOp .FloorDiv (.int a t) (.int b u)) Q E s := floordiv_int hb (by rw [e]; exact h) (.inl hp)
theorem mod_as (e : a.fmod b = c) (hb : b ≠ 0) (h : Q (.int c s.toks) { s with toks := s.toks + 1 }) : wpAny (model prog w) A (binaryOp .Mod (.int a t) (.int b u)) Q E s := mod_int' hb (by rw [e]; exact h)
end
section
local macro_rules | `(tactic| walk_at "binaryOp Add int int") => `(tactic| (refine add_as (by assumption) ?_; try dsimp only))
local macro_rules | `(tactic| walk_at "binaryOp Mult int int") => `(tactic| (refine mul_as (by assumption) (IntMulOk.of_left (by decide)) ?_; try dsimp only))
local macro_rules | `(tactic| walk_at "binaryOp FloorDiv int int") => `(tactic| (refine fdiv_as (by assumption) (by decide) (PyProof.noPylong_of_log2 (by decide +kernel)) ?_; try dsimp only))
local macro_rules | `(tactic| walk_at "binaryOp Mod int int") => `(tactic| (refine mod_as (by assumption) (by assumption) ?_; try dsimp only))
def takeC (k : Int) (ns : List Int) : Int := match ns with
  | [] => 5 * (k + 1) + (k + 1).fdiv 2
  | x :: _ => x
set_option maxHeartbeats 800000 in
theorem take_nil (w : World) (many : Int) (t : Tok) (k k1 c5 c2 cv r : Int) (hm : many ≠ 0) (hk1 : k + 1 = k1) (h5 : 5 * k1 = c5) (h2 : k1.fdiv 2 = c2) (hc : c5 + c2 = cv) (hr : cv.fmod many = r) : DrawOk w 173 (fun B => [.ref B, .int many t]) 1 k [] k1 [] (RetInt r) := by
  refine enterDH (fun B => [("box", .ref B), ("many", .int many t)]) (by k_is) (by k_is) (fun _ _ => BindsTo.of_eq rfl) (fun B => kindsX rfl) (by decide +kernel) rfl rfl rfl ?_
  intro mean mg mb dp un gd hB s L Qb cells base outer B q tB nB us n2 hQb F N Y X T Bl hd hu hi hne lB lq
  cases Y
  simp only [List.nil_append] at N
  have hne1 : @Ne Nat B q := hne
  have hne2 : @Ne Nat q B := Ne.symm hne
  cases hi
  repeat' (first | (k_unfold; (try dsimp only)) | walk1 | (dsimp only; walk1) | (leave1; (try dsimp only)) | fail "no step")
  rename News _ _ _ _ => N4
  exact hQb (by assumption) N4 (.head _) (.tail _ (.head _)) .nil ⟨_, rfl⟩
set_option maxHeartbeats 800000 in
theorem take_cons (w : World) (many : Int) (t : Tok) (k k1 x r : Int) (ns : List Int) (hm : many ≠ 0) (hk1 : k + 1 = k1) (hr : x.fmod many = r) (hl : ns.length ≤ 100) : DrawOk w 173 (fun B => [.ref B, .int many t]) 1 k (x :: ns) k1 ns (RetInt r) := by
  refine enterDH (fun B => [("box", .ref B), ("many", .int many t)]) (by k_is) (by k_is) (fun _ _ => BindsTo.of_eq rfl) (fun B => kindsX rfl) (by decide +kernel) rfl rfl rfl ?_
  intro mean mg mb dp un gd hB s L Qb cells base outer B q tB nB us n2 hQb F N Y X T Bl hd hu hi hne lB lq
  cases Y
  simp only [List.nil_append] at N
  have hne1 : @Ne Nat B q := hne
  have hne2 : @Ne Nat q B := Ne.symm hne
  have hlen := hi.length
  cases hi
  repeat' (first | (k_unfold; (try dsimp only)) | walk1 | (dsimp only; walk1) | (leave1; (try dsimp only)) | fail "no step")
  rename News _ _ _ _ => N4
  rename Fr _ _ _ _ => F4
  rename IntsAre _ _ => hi4
  have hl4 := hi4.length
  refine kl_popAt (k := 0) (p := []) F4 N4 rfl (by simp [seqIndex?]) rfl (Upd.tail hne1 (Upd.head (List.forall_mem_nil _))) (by simp [sizeLine_eq]; omega) ?_
  intro h5 F5 N5
  clear N4 F4
  dsimp only [List.nil_append] at N5 ⊢
  repeat' (first | (k_unfold; (try dsimp only)) | walk1 | (dsimp only; walk1) | (leave1; (try dsimp only)) | fail "no step")
  rename News _ _ _ _ => N6
  exact hQb (by assumption) N6 (.head _) (.tail _ (.head _)) hi4 ⟨_, rfl⟩
/-- what a draw takes, and what is left -/
theorem take_ok (w : World) (many : Int) (t : Tok) (k : Int) (ns : List Int) (hm : many ≠ 0) (hl : ns.length ≤ 100) : DrawOk w 173 (fun B => [.ref B, .int many t]) 1 k ns (k + 1) ns.tail (RetInt ((takeC k ns).fmod many)) := by
  cases ns with
  | nil => exact take_nil w many t k _ _ _ _ _ hm rfl rfl rfl rfl rfl
  | cons x r => exact take_cons w many t k _ x _ r hm rfl rfl (by simp at hl; omega)
end
end Mine
end

section
open PySem PySem.W PySem.Calls PySem.Spec PyProof.Rows
namespace Mine
set_option maxRecDepth 100000
set_option maxHeartbeats 4000000
theorem fill_frag_W8 : (fun (_ : OpenLaw) (_ : Params → Frag) => True) PySem.Challenge.rw_pf0034_01 hd.heap_39 := by k_fill; trivial
/-! _law_poly -/
/-- a polynomial drawn -/
def polyM (k : Int) (ns : List Int) (most : Int) : Nat := (1 + (takeC k ns).fmod most).toNat
def coefN (k : Int) (ns : List Int) (i : Nat) : Int := (takeC (k + 1 + i) (ns.drop (1 + i))).fmod 7 - 3
def topN (k : Int) (ns : List Int) (m : Nat) : Int := [1, 2, -1, 3].getD ((takeC (k + 1 + m) (ns.drop (1 + m))).fmod 4).toNat 0
def polyN (k : Int) (ns : List Int) (most : Int) : List Int := (List.range (polyM k ns most)).map (coefN k ns) ++ [topN k ns (polyM k ns most)]
structure BS where
  t : Tok
  n : Nat
  us : List Value
  n2 : Nat
  k : Int
theorem RetInts.box {r : Addr} {vs : List Value} {n : Nat} {ns : List Int} {h h' : Heap} {L B q : Addr} {news : List (Addr × Obj)} (N : News (Hid h B q) L h' news) (hm : (r, lst vs n) ∈ news) (hB : r ≠ B) (hq : r ≠ q) (hi : IntsAre vs ns) : RetInts ns h (.ref r) h' := by
  refine ⟨r, vs, n, rfl, ?_, (N _ hm).1, hi⟩
  cases e : h.get? r with
  | none => rfl
  | some o => exact absurd ((N _ hm).2.2) (by rw [hideAll_get _ e (by simp [hB, hq])]; simp)
section
local macro_rules | `(tactic| walk_at "exec Assign cons ListComp") => `(tactic| (refine LCg.Assign_ListComp_U (F₀ := by k_asm) (by rfl) (by with_unfolding_all rfl) (by with_unfolding_all rfl) (by decide) (by rfl) (by decide) (by rfl) (by rfl) (by rfl) ?_))
local macro_rules | `(tactic| walk_at "CompSrc") => `(tactic| refine Stop.out ?_)
local macro_rules | `(tactic| walk_at "call ref") => `(tactic| refine Stop.out ?_)
theorem poly_ok (w : World) (most : Int) (t : Tok) (k : Int) (ns : List Int) (hm : 1 ≤ most) (hm3 : most ≤ 3) (hl : ns.length ≤ 100) : DrawOk w 178 (fun B => [.ref B, .int most t]) 2 k ns (k + polyM k ns most + 2) (ns.drop (polyM k ns most + 2)) (RetInts (polyN k ns most)) := by
  refine enterDH (fun B => [("box", .ref B), ("most", .int most t)]) (by k_is) (by k_is) (fun _ _ => BindsTo.of_eq rfl) (fun B => kindsX rfl) (by decide +kernel) rfl rfl rfl ?_
  intro mean mg mb dp un gd hB s L Qb cells base outer B q tB nB us n2 hQb F N Y X T Bl hd hu hi hne lB lq
  k_cells Y
  have hKB : @Ne Nat (L + 1) B := Nat.ne_of_gt (Nat.lt_succ_of_lt lB)
  have hKq : @Ne Nat (L + 1) q := Nat.ne_of_gt (Nat.lt_succ_of_lt lq)
  generalize hK1 : L + 1 = K1 at *
  have hne1 : @Ne Nat B q := hne
  have hne2 : @Ne Nat q B := Ne.symm hne
  have hm0 : most ≠ 0 := by omega
  have r1 := Int.fmod_nonneg_of_pos (takeC k ns) (b := most) (by omega)
  have r2 := Int.fmod_lt_of_pos (takeC k ns) (b := most) (by omega)
  rename Obj => oc
  repeat' (first | (k_unfold; (try dsimp only)) | walk1 | (dsimp only; walk1) | (leave1; (try dsimp only)) | fail "no step")
  refine Stop.mk (DrawOk.use (take_ok w most t k ns hm0 hl) Bl F (kst_newsOf N (l' := [(B, boxO q k tB nB), (q, lst us n2), (K1, oc)]) (by simp only [List.cons_append, List.nil_append]; kst_in)) ?_ hi hne X T rfl (hdD hd (by decide)) (hdU hu (by decide)) ?_)
  · intro p hp
    rw [List.mem_singleton.mp hp]
    exact ⟨hKB, hKq⟩
  · intro v h2 tk2 t2 n3 us3 n4 F2 N2 hi2 hp2 _
    obtain ⟨t3, rfl⟩ := hp2
    clear N F
    repeat' (first | (k_unfold; (try dsimp only)) | walk1 | (dsimp only; walk1) | (leave1; (try dsimp only)) | fail "no step")
    have hM : ((polyM k ns most : Nat) : Int) = 1 + (takeC k ns).fmod most := by unfold polyM; omega
    refine Stop.mk (LCg.CompSrc.range (n := polyM k ns most) rfl (by assumption) (by assumption) (by assumption) (small_one (by omega) (by omega) (by omega) (by omega)) ?_ (by rw [sizeLine_eq]; omega) (fun g => ?_))
    · rw [hM]
      have := rangeSize_nat 0 (1 + (takeC k ns).fmod most)
      omega
    · refine comp_stH (σ := BS) (fun c => [(B, boxO q c.k c.t c.n), (q, lst c.us c.n2), (K1, oc)]) (fun i ys c => c.k = k + 1 + i ∧ IntsAre c.us (ns.drop (1 + i)) ∧ IntsAre ys ((List.range i).map (coefN k ns))) ⟨t2, n3, us3, n4, k + 1⟩ ⟨by simp, by simpa using hi2, .nil⟩ ?_ ?_
      · rintro i ys c v I oI C oC D m₂ s2 Qt2 E' hUt2 hin ⟨c1, c2, c3⟩ - hC hx F3 N3 off ne3
        simp only [LCg.Off3, and_true] at off
        repeat' (first | (k_unfold; (try dsimp only)) | walk1 | (dsimp only; walk1) | (leave1; (try dsimp only)) | fail "no step")
        have hl2 : (ns.drop (1 + i)).length ≤ 100 := by simp; omega
        refine Stop.mk (DrawOk.use (take_ok w 7 _ c.k _ (by decide) hl2) Bl F3 (kst_newsOf N3 (l' := [(B, boxO q c.k c.t c.n), (q, lst c.us c.n2), (I, oI), (C, oC), (D, LCg.lst ys), (K1, oc)]) (by kst_in)) ?_ c2 hne X T rfl (hdD hd (by decide)) (hdU hu (by decide)) ?_)
        · simp only [List.forall_mem_cons]
          exact ⟨⟨Ne.symm off.1.1, Ne.symm off.2.1.1⟩, ⟨Ne.symm off.1.2.1, Ne.symm off.2.1.2.1⟩, ⟨Ne.symm off.1.2.2, Ne.symm off.2.1.2.2⟩, ⟨hKB, hKq⟩, fun _ h => nomatch h⟩
        · intro v h5 tk5 t5 n5 us5 n6 F5 N5 hi5 hp5 _
          obtain ⟨t6, rfl⟩ := hp5
          clear N3 F3
          repeat' (first | (k_unfold; (try dsimp only)) | walk1 | (dsimp only; walk1) | (leave1; (try dsimp only)) | fail "no step")
          refine hUt2 (comp_end (⟨t5, n5, us5, n6, c.k + 1⟩ : BS) (by assumption) (by assumption) (by kst_in) (by simp only [LCg.Off3, and_true]; exact off) trivial ⟨by dsimp only; rw [c1]; omega, ?_, ?_⟩)
          · rw [List.tail_drop] at hi5
            exact hi5
          · rw [List.range_succ, List.map_append]
            refine IntsAre.append c3 ?_
            show IntsAre _ [coefN k ns i]
            unfold coefN
            rw [← c1]
            exact .cons _ _ .nil
      · rintro ys c ⟨c1, c2, c3⟩ D h tk F3 N3 off
        simp only [LCg.Off1, and_true] at off
        have hyl : ys.length = polyM k ns most := by have := c3.length; simpa using this
        repeat' (first | (k_unfold; (try dsimp only)) | walk1 | (dsimp only; walk1) | (leave1; (try dsimp only)) | fail "no step")
        rename News _ _ _ _ => N4
        rename Fr _ _ _ _ => F4
        have hl2 : (ns.drop (1 + polyM k ns most)).length ≤ 100 := by simp; omega
        refine Stop.mk (DrawOk.use (take_ok w 4 _ c.k _ (by decide) hl2) Bl F4 (kst_newsOf N4 (l' := (B, boxO q c.k c.t c.n) :: (q, lst c.us c.n2) :: [_, (D, LCg.lst ys), (K1, oc)]) (by kst_in)) ?_ c2 hne X T rfl (hdD hd (by decide)) (hdU hu (by decide)) ?_)
        · simp only [List.forall_mem_cons]
          exact ⟨⟨by k_ne, by k_ne⟩, ⟨Ne.symm off.1, Ne.symm off.2.1⟩, ⟨hKB, hKq⟩, fun _ h => nomatch h⟩
        · intro v h5 tk5 t5 n5 us5 n6 F5 N5 hi5 hp5 _
          obtain ⟨t6, rfl⟩ := hp5
          clear N4 F4
          have r3 := Int.fmod_nonneg_of_pos (takeC c.k (ns.drop (1 + polyM k ns most))) (b := 4) (by omega)
          have r4 := Int.fmod_lt_of_pos (takeC c.k (ns.drop (1 + polyM k ns most))) (b := 4) (by omega)
          repeat' (first | (k_unfold; (try dsimp only)) | walk1 | (dsimp only; walk1) | (leave1; (try dsimp only)) | fail "no step")
          all_goals
            rename News _ _ _ _ => N7
            rename News _ _ _ ((_, W.listOf #[_] 0) :: _) => N6
            rename Fr _ _ _ _ => F7
            rename (Int.fmod _ 4 = _) => h4
            refine hQb F7 (t' := t5) (n' := n5) (us' := us5) (n2' := n6) N7 ?_ (.tail _ (.tail _ (.tail _ (.head _)))) ?_ (RetInts.box N7 (.head _) (Nat.ne_of_gt (Heap.lt_size (N6 _ (.tail _ (.head _))).1)) (Nat.ne_of_gt (Heap.lt_size (N6 _ (.tail _ (.tail _ (.head _)))).1)) ?_)
            · rw [show k + (polyM k ns most : Int) + 2 = c.k + 1 by omega]
              exact .tail _ (.tail _ (.head _))
            · rw [List.tail_drop] at hi5
              rw [show polyM k ns most + 2 = 1 + polyM k ns most + 1 by omega]
              exact hi5
            · refine IntsAre.append c3 ?_
              show IntsAre _ [topN k ns (polyM k ns most)]
              unfold topN
              rw [← c1, h4]
              exact .cons _ _ .nil
end
end Mine
end

section
open PySem PySem.W PySem.Calls PySem.Spec PyProof.Rows
namespace Mine
/-! what is drawn -/
theorem polyM_bounds (k : Int) (ns : List Int) (most : Int) (h1 : 1 ≤ most) : 1 ≤ polyM k ns most ∧ (polyM k ns most : Int) ≤ most := by
  unfold polyM
  have h2 := Int.fmod_nonneg_of_pos (takeC k ns) (b := most) (by omega)
  have h3 := Int.fmod_lt_of_pos (takeC k ns) (b := most) (by omega)
  omega
theorem small_bits {x : Int} (h1 : -3 ≤ x) (h2 : x ≤ 3) : Builtin.Int.intBits x ≤ 2 := by
  have : x = -3 ∨ x = -2 ∨ x = -1 ∨ x = 0 ∨ x = 1 ∨ x = 2 ∨ x = 3 := by omega
  rcases this with e | e | e | e | e | e | e <;> rw [e] <;> decide
theorem topN_cases (k : Int) (ns : List Int) (m : Nat) : topN k ns m = 1 ∨ topN k ns m = 2 ∨ topN k ns m = -1 ∨ topN k ns m = 3 := by
  unfold topN
  have h2 := Int.fmod_nonneg_of_pos (takeC (k + 1 + m) (ns.drop (1 + m))) (b := 4) (by omega)
  have h3 := Int.fmod_lt_of_pos (takeC (k + 1 + m) (ns.drop (1 + m))) (b := 4) (by omega)
  generalize (takeC (k + 1 + m) (ns.drop (1 + m))).fmod 4 = z at *
  have : z = 0 ∨ z = 1 ∨ z = 2 ∨ z = 3 := by omega
  rcases this with e | e | e | e <;> rw [e] <;> simp
theorem polyN_facts (k : Int) (ns : List Int) (most : Int) (h1 : 1 ≤ most) : Nz (polyN k ns most) ∧ 2 ≤ (polyN k ns most).length ∧ ((polyN k ns most).length : Int) ≤ most + 1 ∧ Sm 2 (polyN k ns most) := by
  have hm := polyM_bounds k ns most h1
  have ht := topN_cases k ns (polyM k ns most)
  have hl : (polyN k ns most).length = polyM k ns most + 1 := by simp [polyN]
  refine ⟨?_, by omega, by omega, ?_⟩
  · unfold Nz polyN
    rw [List.getLastD_concat]
    omega
  · intro x hx
    unfold polyN at hx
    rcases List.mem_append.mp hx with hx | hx
    · obtain ⟨i, _, rfl⟩ := List.mem_map.mp hx
      unfold coefN
      have h2 := Int.fmod_nonneg_of_pos (takeC (k + 1 + i) (ns.drop (1 + i))) (b := 7) (by omega)
      have h3 := Int.fmod_lt_of_pos (takeC (k + 1 + i) (ns.drop (1 + i))) (b := 7) (by omega)
      exact small_bits (by omega) (by omega)
    · rw [List.mem_singleton.mp hx]
      exact small_bits (by omega) (by omega)
theorem drawn_of {S p q : List Int} (hS : Nz S) (lS : S.length ≤ 2) (sS : Sm 2 S) (hp : Nz p) (hq : Nz q) (lp : 2 ≤ p.length) (lq : 2 ≤ q.length) (lpS : p.length + S.length ≤ 5) (lqS : q.length + S.length ≤ 5) (sp : Sm 2 p) (sq : Sm 2 q) : Drawn S (productN p S) (productN q S) := by
  rw [product_mul hp hS, product_mul hq hS]
  have hS1 := List.length_pos_iff.mpr hS.ne
  refine ⟨hS, mulN_nz hp hS, mulN_nz hq hS, ?_, ?_, D.mul, D.mul, (mulN_sm sp sS).mono (by omega), (mulN_sm sq sS).mono (by omega)⟩
  · rw [mulN_len hp hS]; omega
  · rw [mulN_len hq hS]; omega
end Mine
end

section
open PySem PySem.W PyProof.Rows PySem.Calls PySem.Spec PyProof.V
namespace Mine
set_option maxRecDepth 100000
/-- a box of the law's -/
def IsBox (q : Addr) (oB oQ : Obj) : Prop := ∃ k t n us n2 ns, oB = boxO q k t n ∧ oQ = lst us n2 ∧ IntsAre us ns ∧ ns.length ≤ 100
def Off2 (a b : Nat) : List (Addr × Obj) → Prop
  | [] => True
  | p :: r => (@Ne Nat p.1 a ∧ @Ne Nat p.1 b) ∧ Off2 a b r
theorem off2_of {a b : Addr} : ∀ {l : List (Addr × Obj)}, Off2 a b l → ∀ p ∈ l, p.1 ≠ a ∧ p.1 ≠ b
  | [], _, _, h => nomatch h
  | q :: r, hl, p, h => by
    rcases List.mem_cons.mp h with rfl | h
    · exact hl.1
    · exact off2_of hl.2 p h
def OffA (r : Nat) : List (Addr × Obj) → Prop
  | [] => True
  | p :: l => @Ne Nat p.1 r ∧ OffA r l
theorem offA_of {r : Addr} : ∀ {l : List (Addr × Obj)}, (∀ p ∈ l, p.1 ≠ r) → OffA r l
  | [], _ => trivial
  | _ :: _, h => ⟨h _ (.head _), offA_of fun p hp => h p (.tail _ hp)⟩
theorem offA_to {r : Addr} : ∀ {l : List (Addr × Obj)}, OffA r l → ∀ p ∈ l, @Ne Nat p.1 r
  | [], _, _, h => nomatch h
  | q :: l, hl, p, h => by
    rcases List.mem_cons.mp h with rfl | h
    · exact hl.1
    · exact offA_to hl.2 p h
theorem box_of {h₀ h : Heap} {L Bx q : Addr} {t : Tok} {c : Nat} {ws : List Value} {ns : List Int} {rest : List (Addr × Obj)} (N : News h₀ L h ((Bx, listOf #[.ref q, .int 0 t] 0) :: (q, listOf ws.toArray c) :: rest)) (hi : IntsAre ws ns) (hl : ns.length ≤ 100) :
    ∃ oB oQ, IsBox q oB oQ ∧ News h₀ L h ((Bx, oB) :: (q, oQ) :: rest) := ⟨_, _, ⟨_, _, _, _, _, _, rfl, rfl, hi, hl⟩, N⟩
section
variable {w : World} {mean : ExcName → Option Value} {mg mb : Str → Option Value} {dp un un' : Nat} {gd : Option (List Code)} {outer : List Env} {base h₀ : Heap} {L a : Addr} {m : Str → Option Value} {rest : List (Addr × Obj)} {s : Shared} {Q E : Value → Shared → Prop}
    {cn : Str} {cs : Scope} {ccd : Value} {cl : List (Str × Addr)} {Bx q : Addr} {oB oQ : Obj}
theorem draw_take {many : Int} {u : Tok} (hm : 0 < many) (hb : IsBox q oB oQ)
    (B : Below (Ar dp un gd outer) base outer h₀) (F : Fr h₀ L s.heap m) (N : News h₀ L s.heap ((Bx, oB) :: (q, oQ) :: rest)) (hr : ∀ p ∈ rest, p.1 ≠ Bx ∧ p.1 ≠ q) (hne : Bx ≠ q)
    (X : (hd.heap_39 w.params).In h₀) (T : Top hd.view_39 (looseW hd.view_39 []) mean mg mb h₀) (hk : cs.kind = .function)
    (hd : dp + 1 + 1 < recursionLimit) (hu : un' + 8 * 1 < cLine)
    (hQ : ∀ (r : Int) (t : Tok) h' tk' oB' oQ', 0 ≤ r → r < many → IsBox q oB' oQ' → Fr h₀ L h' m → News h₀ L h' ((Bx, oB') :: (q, oQ') :: rest) → Q (.int r t) { s with heap := h', toks := tk' }) :
    wpAny (model RR.row.prog w) (Ar (dp + 1) un' gd (envX cn cs L a ccd cl :: outer)) (call (.ref 173) [.ref Bx, .int many u]) Q E s := by
  obtain ⟨k, t, n, us, n2, ns, rfl, rfl, hi, hl⟩ := hb
  refine DrawOk.use (take_ok w many u k ns (by omega) hl) B F N hr hi hne X T hk hd hu ?_
  rintro v h' tk' t' n' us' n2' F' N' hi' ⟨t2, rfl⟩ _
  exact hQ _ _ h' tk' _ _ (Int.fmod_nonneg_of_pos _ hm) (Int.fmod_lt_of_pos _ hm) ⟨_, _, _, _, _, _, rfl, rfl, hi', by rw [List.length_tail]; omega⟩ F' N'
theorem draw_poly {most : Int} {u : Tok} (h1 : 1 ≤ most) (h3 : most ≤ 3) (hb : IsBox q oB oQ)
    (B : Below (Ar dp un gd outer) base outer h₀) (F : Fr h₀ L s.heap m) (N : News h₀ L s.heap ((Bx, oB) :: (q, oQ) :: rest)) (hr : ∀ p ∈ rest, p.1 ≠ Bx ∧ p.1 ≠ q) (hne : Bx ≠ q)
    (X : (hd.heap_39 w.params).In h₀) (T : Top hd.view_39 (looseW hd.view_39 []) mean mg mb h₀) (hk : cs.kind = .function)
    (hd : dp + 1 + 2 < recursionLimit) (hu : un' + 8 * 2 < cLine)
    (hQ : ∀ R vs n P h' tk' oB' oQ', Nz P → 2 ≤ P.length → (P.length : Int) ≤ most + 1 → Sm 2 P → IntsAre vs P → IsBox q oB' oQ' → Fr h₀ L h' m → News h₀ L h' ((R, lst vs n) :: (Bx, oB') :: (q, oQ') :: rest) → (∀ p ∈ (Bx, oB) :: (q, oQ) :: rest, p.1 ≠ R) → Q (.ref R) { s with heap := h', toks := tk' }) :
    wpAny (model RR.row.prog w) (Ar (dp + 1) un' gd (envX cn cs L a ccd cl :: outer)) (call (.ref 178) [.ref Bx, .int most u]) Q E s := by
  obtain ⟨k, t, n, us, n2, ns, rfl, rfl, hi, hl⟩ := hb
  refine DrawOk.use (poly_ok w most u k ns h1 h3 hl) B F N hr hi hne X T hk hd hu ?_
  rintro v h' tk' t' n' us' n2' F' N' hi' ⟨R, vs, n9, rfl, e1, e2, e3⟩ _
  obtain ⟨p1, p2, p3, p4⟩ := polyN_facts k ns most h1
  exact hQ R vs n9 _ h' tk' _ _ p1 p2 p3 p4 e3 ⟨_, _, _, _, _, _, rfl, rfl, hi', by rw [List.length_drop]; omega⟩ F' (News.put F N' e1 e2) (fun p hp e => by have := (N p hp).1; rw [e, e1] at this; cases this)
theorem useR2 {f : Addr} {args : List Value} {dep : Nat} {pre : Heap → Prop} {rows : List (List Int)} {news : List (Addr × Obj)} (C : CallOk w f args dep pre (RetRows rows))
    (B : Below (Ar dp un gd outer) base outer h₀) (F : Fr h₀ L s.heap m) (N : News h₀ L s.heap news) (X : (hd.heap_39 w.params).In h₀) (T : Top hd.view_39 (looseW hd.view_39 []) mean mg mb h₀) (hk : cs.kind = .function)
    (hd : dp + 1 + dep < recursionLimit) (hu : un' + 8 * dep < cLine) (hp : pre s.heap)
    (hQ : ∀ R rvs n led h' tk', Fr h₀ L h' m → News h₀ L h' ((R, lst rvs n) :: (led ++ news)) → RowsL led rvs rows → (∀ p ∈ news, p.1 ≠ R) → (∀ p ∈ news, ∀ p' ∈ led, p'.1 ≠ p.1) → Q (.ref R) { s with heap := h', toks := tk' }) :
    wpAny (model RR.row.prog w) (Ar (dp + 1) un' gd (envX cn cs L a ccd cl :: outer)) (call (.ref f) args) Q E s := by
  refine C.use B F N X T hk hd hu hp (fun v h' tk' F' N' _ hq => ?_)
  obtain ⟨R, rvs, n, led, rfl, h1, h2, h3, h4⟩ := hq
  refine hQ R rvs n led h' tk' F' (News.put F (News.puts F N' h4) h1 h2) h3 (fun p hp e => by have := (N p hp).1; rw [e, h1] at this; cases this) (fun p hp p' hp' e => ?_)
  have z := (h4 p' hp').1
  rw [e, (N p hp).1] at z
  cases z
end
end Mine
end

section
open PySem PySem.W PySem.Calls PySem.Spec PyProof.Rows
namespace Mine
set_option maxRecDepth 100000
set_option maxHeartbeats 4000000
theorem fill_frag_W9 : (fun (_ : OpenLaw) (_ : Params → Frag) => True) PySem.Challenge.rw_pf0034_01 hd.heap_39 := by k_fill; trivial
/-! _law_product -/
theorem setL_of : ∀ {vs : List Value} {i : Nat} (v : Value), i < vs.length → ki_setL vs i v = some (vs.set i v)
  | _ :: _, 0, _, _ => rfl
  | x :: r, i + 1, v, h => by
    unfold ki_setL
    rw [setL_of (vs := r) (i := i) v (by simpa using h)]
    rfl
theorem IntsAre.set {vs : List Value} {ns : List Int} (h : IntsAre vs ns) (k : Int) (t : Tok) : ∀ i, IntsAre (vs.set i (.int k t)) (ns.set i k) := by
  induction h with
  | nil => exact fun _ => .nil
  | cons n t' hr ih =>
    intro i
    cases i with
    | zero => exact .cons _ _ hr
    | succ i => exact .cons _ _ (ih i)
theorem prod_idx {i j k l n m f v : Nat} (h1 : i + (k + 1) = n) (h2 : j + (l + 1) = m) (h3 : f = n + m - 1) (h4 : v = f) (hn : n ≤ 8) (hm : m ≤ 8) : i + j < v ∧ (i : Int) + (j : Int) < (f : Int) ∧ (i : Int) + (j : Int) < 2 ^ 63 := by omega
theorem prod_len {n m : Nat} (h : 0 < n) (hn : n ≤ 8) (hm : m ≤ 8) : ((n : Int) + (m : Int) - 1).toNat = n + m - 1 ∧ -(2 : Int) ^ 63 ≤ (n : Int) + (m : Int) - 1 ∧ (n : Int) + (m : Int) - 1 < 2 ^ 63 ∧ (n : Int) + (m : Int) - 1 ≤ ((16 : Nat) : Int) := by omega
structure FS where
  vs : List Value
  n : Nat
  f : List Int
section
local macro_rules | `(tactic| walk_at "exec For Tuple Call cons nil") => `(tactic| refine Stop.out ?_)
local macro_rules | `(tactic| walk_at "call type:enumerate") => `(tactic| refine Stop.out ?_)
local macro_rules | `(tactic| walk_at "setItem ref int") => `(tactic| refine Stop.out ?_)
local macro_rules | `(tactic| walk_at "binaryOp Mult int int") => `(tactic| refine P.mul_int ?_ (IntMulOk.of_le (m := 60000000) (n := 60000000) (by assumption) (by assumption) (by decide)))
theorem product_ok (w : World) (a b : Addr) (ns ms : List Int) (hn0 : ns ≠ []) (hn : ns.length ≤ 8) (hm : ms.length ≤ 8) (sn : Sm 60000000 ns) (sm : Sm 60000000 ms) :
    CallOk w 185 [.ref a, .ref b] 1 (fun h => IntsAt a ns h ∧ IntsAt b ms h) (RetInts (productN ns ms)) := by
  refine enterH [("a", .ref a), ("b", .ref b)] (by k_is) (by k_is) (fun _ => BindsTo.of_eq rfl) (locs rfl) rfl rfl rfl (by decide) ?_
  intro mean mg mb dp un gd h₀ s L Qb base outer hQ F N X T B hd hu ⟨⟨vs, hl, hi⟩, ⟨us, hl', hi'⟩⟩
  have hlen := hi.length
  have hlen' := hi'.length
  have hn1 := List.length_pos_iff.mpr hn0
  obtain ⟨pl1, pl2, pl3, pl4⟩ := prod_len hn1 hn hm
  k_steps
  refine Stop.mk ?_
  rename Fr _ _ _ _ => F1
  rename News _ _ _ _ => N1
  rename IntsAre _ (List.flatten _) => hI0
  obtain ⟨D, eD⟩ := the_addr N1
  subst eD
  have e0 : (List.replicate ((ns.length : Int) + ms.length - 1).toNat [(0 : Int)]).flatten = List.replicate (ns.length + ms.length - 1) 0 := by
    have : ((ns.length : Int) + ms.length - 1).toNat = ns.length + ms.length - 1 := by omega
    rw [this]; simp
  rw [e0] at hI0
  refine For_turns F1 ?_
  k_steps
  refine Stop.mk ?_
  refine enum_list rfl F1 (kst_newsOf N1 (l' := [_]) (by kst_in)) (.inl ⟨rfl, hl⟩) (fun I hI => ?_)
  have hI := LtAll.of hI
  have hI1 := hI.succ
  refine for_stH (σ := FS) (fun c => [(D, lst c.vs c.n)]) (fun _ => [("found", .ref D)]) ["at", "one", "spot", "other"] (fun r c => ∃ us zs, ∃ i : Nat, r = enumItems i us ∧ IntsAre us zs ∧ Sm 60000000 zs ∧ IntsAre c.vs c.f ∧ i + zs.length = ns.length ∧ c.f.length = ns.length + ms.length - 1 ∧ prodOut ms zs i c.f = productN ns ms) ⟨_, _, _⟩ (by kst_all) ⟨vs, ns, 0, rfl, hi, sn, hI0, by omega, by simp, rfl⟩ ?_ ?_
  · clear F1 N1
    rintro q r c u v s1 ⟨us1, zs, i, e, hu1, hs1, hc1, hil, hfl, hp⟩ hq F2
    refine AllObj.cons fun o ho => AllObj.cons fun o2 ho2 => AllObj.nil ?_
    intro N2 Qt hU1 _
    cases hu1 with
    | nil => cases e
    | cons x t hu2 =>
      cases e
      obtain ⟨T, tq, rfl, hT⟩ := hq
      simp only [List.cons_append, List.nil_append] at N2
      simp only [List.length_cons] at hil
      have hx : Builtin.Int.intBits x ≤ 60000000 := hs1 x (.head _)
      try dsimp only
      k_steps
      refine Stop.mk ?_
      rename Fr _ _ _ _ => F3
      rename News _ _ _ _ => N3
      refine For_turns F3 ?_
      k_steps
      refine Stop.mk ?_
      refine enum_list rfl F3 N3 (.inl ⟨rfl, hl'⟩) (fun J hJ => ?_)
      have hJ := LtAll.of hJ
      have hJ1 := hJ.succ
      refine for_stH (σ := FS) (fun c1 => [(I + 1, o), (I, o2), (D, lst c1.vs c1.n)]) (fun _ => [("found", .ref D), ("at", .int (i : Int) tq), ("one", .int x t)]) ["spot", "other"] (fun r c1 => ∃ us zs, ∃ j : Nat, r = enumItems j us ∧ IntsAre us zs ∧ Sm 60000000 zs ∧ IntsAre c1.vs c1.f ∧ j + zs.length = ms.length ∧ c1.f.length = ns.length + ms.length - 1 ∧ prodIn x i zs j c1.f = prodIn x i ms 0 c.f) ⟨c.vs, c.n, c.f⟩ (by kst_all) ⟨us, ms, 0, rfl, hi', sm, hc1, by omega, hfl, rfl⟩ ?_ ?_
      · clear F3 N3
        rintro q r1 c1 u1 v s2 ⟨us2, zs2, j, e, hu3, hs3, hJc, hjl, hfl1, hp1⟩ hq F4
        refine AllObj.cons fun o3 ho3 => AllObj.cons fun o4 ho4 => AllObj.nil ?_
        intro N4 Qt2 hU2 _
        cases hu3 with
        | nil => cases e
        | cons y t2 hu4 =>
          cases e
          obtain ⟨T2, tq2, rfl, hT2⟩ := hq
          simp only [List.cons_append, List.nil_append] at N4
          simp only [List.length_cons] at hjl
          have hy : Builtin.Int.intBits y ≤ 60000000 := hs3 y (.head _)
          have eij : ((i : Int) + (j : Int)).toNat = i + j := by omega
          have hcl := hJc.length
          obtain ⟨ij1, ij2, ij3⟩ := prod_idx hil hjl hfl1 hcl hn hm
          try dsimp only
          k_steps
          refine Stop.mk ?_
          rename Fr _ _ _ _ => F5
          rename News _ _ _ _ => N5
          refine ki_set F5 N5 (by omega) (by omega) (setL_of _ (by rw [List.toList_toArray, eij]; omega)) (Upd.tail (by k_ne) (Upd.tail (by k_ne) (Upd.tail (by k_ne) (Upd.tail (by k_ne) (Upd.head (List.forall_mem_nil _)))))) ?_
          intro h6 F6 N6
          clear F5 N5
          k_steps
          refine hU2 (for_end (⟨_, c1.n, addAt c1.f (i + j) (x * y)⟩ : FS) F6 N6 ⟨.head _, .tail _ (.head _), trivial⟩ ⟨.tail _ (.tail _ (.head _)), .tail _ (.tail _ (.tail _ (.head _))), .tail _ (.tail _ (.tail _ (.tail _ (.head _)))), trivial⟩ ?_ trivial (by kst_all) (by ksw_same) ⟨_, _, j + 1, rfl, hu4, fun z hz => hs3 z (.tail _ hz), ?_, by omega, by rw [addAt_len]; exact hfl1, hp1⟩)
          · exact ⟨⟨.inl (by k_ne), .inl (by k_ne), trivial⟩, ⟨.inl (by k_ne), .inl (by k_ne), trivial⟩, ⟨.inl (by k_ne), .inl (by k_ne), trivial⟩, trivial⟩
          · dsimp only
            rw [eij]
            exact Mine.IntsAre.set hJc _ _ (i + j)
      · clear F3 N3
        rintro c1 u1 h tk ⟨us2, zs2, j, e, hu3, hs3, hJc, hjl, hfl1, hp1⟩ F4 N4
        cases hu3 with
        | nil =>
          have hp1' : c1.f = prodIn x i ms 0 c.f := hp1
          k_steps
          refine hU1 (for_end (⟨c1.vs, c1.n, c1.f⟩ : FS) (by assumption) (by assumption) ⟨.head _, .tail _ (.head _), trivial⟩ ⟨.tail _ (.tail _ (.head _)), trivial⟩ (OffW.two (LtAll.lt hI (.head _)) (LtAll.lt hI1 (.head _))) trivial (by kst_all) (by ksw_same) ⟨_, _, i + 1, rfl, hu2, fun z hz => hs1 z (.tail _ hz), hJc, by omega, hfl1, ?_⟩)
          have hp2 : prodOut ms _ (i + 1) (prodIn x i ms 0 c.f) = productN ns ms := hp
          try dsimp only
          rw [hp1']
          exact hp2
        | cons n t h9 => cases e
  · clear F1 N1
    rintro c u h tk ⟨us1, zs, i, e, hu1, hs1, hc1, hil, hfl, hp⟩ F2 N2
    cases hu1 with
    | nil =>
      k_steps
      have hp' : c.f = productN ns ms := hp
      exact hQ F2 (RetInts.of N2 (.head _) (hp' ▸ hc1))
    | cons n t h9 => cases e
end
end Mine
end

section
open PySem PySem.W PySem.Calls PySem.Spec PyProof.Rows
namespace Mine
set_option maxRecDepth 100000
set_option maxHeartbeats 4000000
theorem fill_frag_W10 : (fun (_ : OpenLaw) (_ : Params → Frag) => True) PySem.Challenge.rw_pf0034_01 hd.heap_39 := by k_fill; trivial
/-! _law_determinant -/
structure DS where
  o : Obj
  w : Int
  t : Tok
section
local macro_rules | `(tactic| walk_at "subscriptTail Name Constant ref int") => `(tactic| ((refine item_listR (x := Value.ref _) (by is_list) (by decide) (by decide) (by exact rfl) ?_); try dsimp only))
local macro_rules | `(tactic| walk_at "compareOp Eq ref ref") => `(tactic| ((refine rows_eq (by is_list) (ys := []) (by is_list) (RowsAt.keeps (by assumption) (Fr.keep (by assumption))) .nil (hdV (by assumption) (by decide)) ?_); try dsimp only))
local macro_rules | `(tactic| walk_at "exec For Tuple Call cons nil") => `(tactic| refine Stop.out ?_)
local macro_rules | `(tactic| walk_at "exec For Tuple Subscript cons nil") => `(tactic| refine Stop.out ?_)
local macro_rules | `(tactic| walk_at "call type:enumerate") => `(tactic| refine Stop.out ?_)
local macro_rules | `(tactic| walk_at "exec Assign cons ListComp") => `(tactic| refine Stop.out ?_)
local macro_rules | `(tactic| walk_at "CompSrc") => `(tactic| refine Stop.out ?_)
local macro_rules | `(tactic| walk_at "call ref") => `(tactic| refine Stop.out ?_)
local macro_rules | `(tactic| walk_at "subscriptTail Name Slice ref ref") => `(tactic| ((refine' kms_slice_lit ?kF ?kN ?kl ?kp ?kq ?ke ?_ ?ks ?kt ?kz; (case kF => k_asm); (case kN => k_asm); (case kl => is_list); (case kp => kmk_part); (case kq => kmk_part); (case ke => exact kms_tail1 _ _); (case ks => with_unfolding_all rfl); (case kt => kmk_pure); (case kz => (simp only [List.size_toArray, List.length_cons, sizeLine_eq]; omega))); intro D' h' F' N' l1; (try k_lt l1); (try k_sweep); (try dsimp only)))
theorem det_zero (w : World) (a : Addr) : CallOk w 190 [.ref a] (0 + 10) (RowAt a []) (RetInt (detF 0 [])) := by
  refine enterCH [("rows", .ref a)] (by k_is) (by k_is) (fun _ => BindsTo.of_eq rfl) (kindsX rfl) (by decide +kernel) rfl rfl rfl ?_
  intro mean mg mb dp un gd h₀ s L Qb cells base outer hQb F N Y X T B hd hu ⟨rvs, hl, hr⟩
  k_cells Y
  have hr2 := hr
  cases hr
  repeat' (first | (k_unfold; (try dsimp only)) | walk1 | (dsimp only; walk1) | (leave1; (try dsimp only)) | fail "no step")
  exact hQb (by assumption) ⟨_, rfl⟩
local macro_rules | `(tactic| kmk_nums) => `(tactic| first | (with_reducible refine' kmk_upto ?gi ?gx; (case gi => assumption); (case gx => omega)) | (with_reducible refine' kmk_from ?gi ?gx; (case gi => assumption); (case gx => omega)))
local macro_rules | `(tactic| walk_at "compareOp Eq ref ref") => `(tactic| refine Stop.out ?_)
theorem det_succ (w : World) (n : Nat) (a : Addr) (r : List Int) (rest : List (List Int)) (hn : n ≤ 6) (hrl : rest.length = n) (hsm : RowsSm 8 1000000 (r :: rest))
    (ih : ∀ (a : Addr) (rows : List (List Int)), rows.length = n → RowsSm 8 1000000 rows → CallOk w 190 [.ref a] (n + 10) (RowAt a rows) (RetInt (detF n rows))) :
    CallOk w 190 [.ref a] (n + 1 + 10) (RowAt a (r :: rest)) (RetInt (detF (n + 1) (r :: rest))) := by
  refine enterCH [("rows", .ref a)] (by k_is) (by k_is) (fun _ => BindsTo.of_eq rfl) (kindsX rfl) (by decide +kernel) rfl rfl rfl ?_
  intro mean mg mb dp un gd h₀ s L Qb cells base outer hQb F N Y X T B hd hu ⟨rvs, hl, hr⟩
  k_cells Y
  generalize hK1 : L + 1 = K1 at *
  obtain ⟨R, vs, rvs, rfl, hRl, hRi, hR⟩ := hr.inv
  have hRn := hR.len
  repeat' (first | (k_unfold; (try dsimp only)) | walk1 | (dsimp only; walk1) | (leave1; (try dsimp only)) | fail "no step")
  rename Fr _ _ _ _ => F0
  refine Stop.mk (rows_eq (ns := r :: rest) (ms := []) (hl.at fun o e => F0.keep _ o e) (by is_list) (.cons (hRl.at fun o e => F0.keep _ o e) hRi (hR.keeps fun b o e => F0.keep _ o e)) .nil (hdV hu (by omega)) ?_)
  rw [decide_eq_false (by simp)]
  repeat' (first | (k_unfold; (try dsimp only)) | walk1 | (dsimp only; walk1) | (leave1; (try dsimp only)) | fail "no step")
  refine Stop.mk ?_
  rename Fr _ _ _ _ => F1
  rename News _ _ _ _ => N1
  refine For_turns F1 ?_
  repeat' (first | (k_unfold; (try dsimp only)) | walk1 | (dsimp only; walk1) | (leave1; (try dsimp only)) | fail "no step")
  refine Stop.mk ?_
  refine enum_list rfl F1 (kst_newsOf N1 (l' := [(K1, _)]) (by kst_in)) (.inl ⟨rfl, hRl⟩) (fun I hI => ?_)
  have hCI : @LT.lt Nat _ (K1) I := hI _ (.head _)
  refine for_stH (σ := DS) (fun c => [(K1, c.o)]) (fun c => [("worth", .int c.w c.t)]) ["one", "less"] (fun q c => ∃ us zs y, ∃ i : Nat, q = enumItems i us ∧ IntsAre us zs ∧ Sm 1000000 zs ∧ c.o.data = .cell y ∧ detSum (detF n) rest zs i c.w = detF (n + 1) (r :: rest)) ⟨_, 0, _⟩ (by kst_all) ⟨vs, r, _, 0, rfl, hRi, (hsm r (.head _)).2, by assumption, rfl⟩ ?_ ?_
  · clear F1 N1
    rintro q r1 c u v s1 ⟨us1, zs, y, i, e, hu1, hs1, hco, hp⟩ hq F2
    refine AllObj.cons fun o ho => AllObj.cons fun o2 ho2 => AllObj.nil ?_
    intro N2 Qt hUt hUr
    cases hu1 with
    | nil => cases e
    | cons x t hu2 =>
      cases e
      obtain ⟨Tp, tq, rfl, hT⟩ := hq
      simp only [List.cons_append, List.nil_append] at N2
      have hx : Builtin.Int.intBits x ≤ 1000000 := hs1 x (.head _)
      repeat' (first | (k_unfold; (try dsimp only)) | walk1 | (dsimp only; walk1) | (leave1; (try dsimp only)) | fail "no step")
      · refine Stop.mk ?_
        refine LCg.Assign_ListComp_U (F₀ := by k_asm) (by rfl) (by with_unfolding_all rfl) (by with_unfolding_all rfl) (by decide) (by rfl) (by decide) (by rfl) (by rfl) (by rfl) ?_
        repeat' (first | (k_unfold; (try dsimp only)) | walk1 | (dsimp only; walk1) | (leave1; (try dsimp only)) | fail "no step")
        rename News _ _ _ _ => N3
        rename Fr _ _ _ _ => F3
        obtain ⟨S, eS⟩ := the_addr N3
        subst eS
        rename (_ = Data.cell (some _)) => hoc
        rename Obj => oc
        rename LtAll _ _ => hlt
        refine Stop.mk (LCg.CompSrc.ledger rfl F3 N3 (.head _) (by simp only [List.size_toArray, sizeLine_eq]; omega) (fun g => ?_))
        refine comp_stH (σ := List (Addr × Obj)) (fun led => (S, listOf rvs.toArray 0) :: (I + 1, o) :: (I, o2) :: (K1, oc) :: led) (fun j ys led => RowsL led ys ((rest.take j).map (lessR i))) [] .nil ?_ ?_
        · rintro j ys led v J oJ C oC D m₂ s2 Qt2 E' hUt2 hj hys hv hC hx F4 N4 off ne3
          have hj' : j < rest.length := by simpa [hRn] using hj
          obtain ⟨r1, vs1, g1, g2, g3⟩ := hR.get j hj'
          have hv' : rvs[j]? = some v := by simpa using hv
          rw [g1] at hv'
          cases hv'
          simp only [LCg.Off3] at off
          obtain ⟨q, hq⟩ : ∃ q, rest[j] = q := ⟨_, rfl⟩
          rw [hq] at g3
          have hq8 : q.length ≤ 8 := hq ▸ (hsm _ (.tail _ (List.getElem_mem hj'))).1
          have hql := g3.length
          repeat' (first | (k_unfold; (try dsimp only)) | walk1 | (dsimp only; walk1) | (leave1; (try dsimp only)) | fail "no step")
          rename News _ _ _ _ => N5
          rename IntsAre _ (_ ++ _) => hI5
          obtain ⟨DD, ws, eD, eW⟩ := the_list N5
          subst eD eW
          refine hUt2 (comp_end ((DD, listOf ws.toArray 0) :: led) (by assumption) N5 ?_ ⟨off.1, off.2.1, off.2.2.1, off.2.2.2.1, ⟨by k_ne, by k_ne, by k_ne⟩, off.2.2.2.2⟩ (.inr ⟨_, .head _, rfl, _, rfl⟩) ?_)
          · exact List.forall_mem_cons.mpr ⟨.tail _ (.tail _ (.tail _ (.head _))), List.forall_mem_cons.mpr ⟨.tail _ (.tail _ (.tail _ (.tail _ (.head _)))), List.forall_mem_cons.mpr ⟨.tail _ (.tail _ (.tail _ (.tail _ (.tail _ (.head _))))),
              List.forall_mem_cons.mpr ⟨.tail _ (.tail _ (.tail _ (.tail _ (.tail _ (.tail _ (.head _)))))), List.forall_mem_cons.mpr ⟨.tail _ (.tail _ (.tail _ (.tail _ (.tail _ (.tail _ (.tail _ (.head _))))))),
              List.forall_mem_cons.mpr ⟨.tail _ (.tail _ (.tail _ (.tail _ (.tail _ (.tail _ (.tail _ (.tail _ (.head _)))))))), List.forall_mem_cons.mpr ⟨.tail _ (.tail _ (.tail _ (.tail _ (.tail _ (.tail _ (.tail _ (.tail _ (.tail _ (.head _))))))))),
              List.forall_mem_cons.mpr ⟨.head _, fun p hp => .tail _ (.tail _ (.tail _ (.tail _ (.tail _ (.tail _ (.tail _ (.tail _ (.tail _ (.tail _ hp)))))))))⟩⟩⟩⟩⟩⟩⟩⟩
          · have e9 : (rest.take (j + 1)).map (lessR i) = (rest.take j).map (lessR i) ++ [lessR i q] := by
              rw [List.take_add_one, List.getElem?_eq_getElem hj', hq, List.map_append]
              rfl
            rw [e9]
            refine (hys.mono fun p hp => .tail _ hp).snoc (.head _) ?_
            have e8 : ((i : Int) + 1).toNat = i + 1 := by omega
            rw [e8, Int.toNat_natCast] at hI5
            exact hI5
        · rintro ys led hys D h9 tk9 F4 N4 off
          have e9 : (rest.take rvs.toArray.size).map (lessR i) = rest.map (lessR i) := by
            rw [List.take_of_length_le (by simp [hRn])]
          rw [e9] at hys
          have hdB : Builtin.Int.intBits (detF n (rest.map (lessR i))) ≤ 1 + n * (1000000 + 8 + 1) := detF_bits (l := 8) n _ (RowsSm.less fun q hq => hsm q (.tail _ hq))
          repeat' (first | (k_unfold; (try dsimp only)) | walk1 | (dsimp only; walk1) | (leave1; (try dsimp only)) | fail "no step")
          rename News _ _ _ _ => N5
          rename Fr _ _ _ _ => F5
          refine Stop.mk (CallOk.useI (ih D (rest.map (lessR i)) (by simp [hrl]) (RowsSm.less fun q hq => hsm q (.tail _ hq))) B F5 N5 X T rfl (hdD hd (by omega)) (hdU hu (by omega)) ⟨ys, ?_, ?_⟩ ?_)
          · exact ⟨_, (N5 _ (.head _)).1, rfl, _, rfl⟩
          · exact RowsAt.of hys N5 fun p hp => .tail _ (.tail _ (.tail _ (.tail _ (.tail _ hp))))
          · intro t9 h9 tk9 F9 N9
            repeat' (first | (k_unfold; (try dsimp only)) | walk1 | (dsimp only; walk1) | (leave1; (try dsimp only)) | fail "no step")
            refine P.mul_int ?_ (IntMulOk.of_le (m := 1 + 1000000) (n := 100000000) (intBits_mul_le (sign_bits i) hx) (Nat.le_trans hdB (by omega)) (by decide))
            repeat' (first | (k_unfold; (try dsimp only)) | walk1 | (dsimp only; walk1) | (leave1; (try dsimp only)) | fail "no step")
            rename (x ≠ 0) => hx0
            rename News _ _ _ _ => N9
            refine hUt (for_end (⟨oc, _, _⟩ : DS) (by assumption) N9 ⟨.tail _ (.tail _ (.head _)), .tail _ (.tail _ (.tail _ (.head _))), trivial⟩ ⟨.tail _ (.tail _ (.tail _ (.tail _ (.head _)))), trivial⟩ (OffW.two (by show @LT.lt Nat _ (K1) I; exact hCI) (by show @LT.lt Nat _ (K1) (I + 1); omega)) trivial (by kst_all) (by ksw_same) ⟨_, _, _, i + 1, rfl, hu2, fun z hz => hs1 z (.tail _ hz), hoc, ?_⟩)
            have hp2 : detSum (detF n) rest _ (i + 1) (if x ≠ 0 then c.w + (1 - 2 * ((i : Int).fmod 2)) * x * detF n (rest.map (lessR i)) else c.w) = detF (n + 1) (r :: rest) := hp
            rw [if_pos hx0] at hp2
            exact hp2
      · rename (_ = Data.cell (some _)) => hoc
        rename Obj => oc
        rename News _ _ _ _ => N9
        rename (x = 0) => hx0
        refine hUt (for_end (⟨oc, c.w, c.t⟩ : DS) (by assumption) N9 ⟨.head _, .tail _ (.head _), trivial⟩ ⟨.tail _ (.tail _ (.head _)), trivial⟩ (OffW.two (by show @LT.lt Nat _ (K1) I; exact hCI) (by show @LT.lt Nat _ (K1) (I + 1); omega)) trivial (by kst_all) (by ksw_same) ⟨_, _, _, i + 1, rfl, hu2, fun z hz => hs1 z (.tail _ hz), hoc, ?_⟩)
        have hp2 : detSum (detF n) rest _ (i + 1) (if x ≠ 0 then c.w + (1 - 2 * ((i : Int).fmod 2)) * x * detF n (rest.map (lessR i)) else c.w) = detF (n + 1) (r :: rest) := hp
        rw [if_neg (fun e => e hx0)] at hp2
        exact hp2
  · clear F1 N1
    rintro c u h tk ⟨us1, zs, y, i, e, hu1, hs1, hco, hp⟩ F2 N2
    cases hu1 with
    | nil =>
      repeat' (first | (k_unfold; (try dsimp only)) | walk1 | (dsimp only; walk1) | (leave1; (try dsimp only)) | fail "no step")
      exact hQb F2 ⟨c.t, congrArg (Value.int · c.t) hp⟩
    | cons n t h9 => cases e
theorem det_all (w : World) : ∀ (n : Nat), n ≤ 7 → ∀ (a : Addr) (rows : List (List Int)), rows.length = n → RowsSm 8 1000000 rows → CallOk w 190 [.ref a] (n + 10) (RowAt a rows) (RetInt (detF n rows))
  | 0, _, a, rows, hl, _ => by
    rw [List.eq_nil_of_length_eq_zero hl]
    exact det_zero w a
  | n + 1, hn, a, rows, hl, hs => by
    cases rows with
    | nil => cases hl
    | cons r rest => exact det_succ w n a r rest (by omega) (by simpa using hl) hs (det_all w n (by omega))
theorem det_ok (w : World) (a : Addr) (rows : List (List Int)) (hl : rows.length ≤ 7) (hs : RowsSm 8 1000000 rows) : CallOk w 190 [.ref a] 17 (RowAt a rows) (RetInt (detN rows)) :=
  CallOk.weaken (det_all w rows.length hl a rows rfl hs) (by omega)
end
end Mine
end

section
open PySem PySem.W PySem.Calls PySem.Spec PyProof.Rows
namespace Mine
set_option maxRecDepth 100000
set_option maxHeartbeats 4000000
theorem fill_frag_W11 : (fun (_ : OpenLaw) (_ : Params → Frag) => True) PySem.Challenge.rw_pf0034_01 hd.heap_39 := by k_fill; trivial
/-! _law_left -/
structure LfS where
  a : Addr
  vs : List Value
  n : Nat
  ns : List Int
  o1 : Obj
  o2 : Obj
structure LI where
  vs : List Value
  n : Nat
  ns : List Int
def leftC (ns ms : List Int) (i : Nat) : Int := ns.getD i 0 * ms.getLastD 0 - (if ns.length - ms.length ≤ i then ns.getLastD 0 * ms.getD (i - (ns.length - ms.length)) 0 else 0)
theorem leftN_go {f : Nat} {ns ms : List Int} (h : ms.length ≤ ns.length) : leftN (f + 1) ns ms = leftN f (trimN ((List.range ns.length).map (leftC ns ms))) ms := by
  conv => lhs; unfold leftN
  rw [if_pos h]
  rfl
theorem leftN_stop {f : Nat} {ns ms : List Int} (h : ¬ ms.length ≤ ns.length) : leftN f ns ms = ns := by
  cases f with
  | zero => rfl
  | succ f => unfold leftN; rw [if_neg h]
theorem dropLast_snoc {ns : List Int} (h0 : ns ≠ []) : ns = ns.dropLast ++ [ns.getD (-1 + (ns.length : Int)).toNat 0] := by
  have hl := List.length_pos_iff.mpr h0
  have e : (-1 + (ns.length : Int)).toNat = ns.length - 1 := by omega
  rw [e, List.getD_eq_getElem?_getD, List.getElem?_eq_getElem (by omega), Option.getD_some, ← List.getLast_eq_getElem h0]
  exact (List.dropLast_concat_getLast h0).symm
theorem trim_drop {ns : List Int} (h0 : ns ≠ []) (h : ns.getD (-1 + (ns.length : Int)).toNat 0 = 0) : trimN ns.dropLast = trimN ns := by
  have e := dropLast_snoc h0
  rw [h] at e
  conv => rhs; rw [e]
  rw [trimN_snoc0]
theorem trim_keep {ns : List Int} (h0 : ns ≠ []) (h : ns.getD (-1 + (ns.length : Int)).toNat 0 ≠ 0) : trimN ns = ns := by
  have e := dropLast_snoc h0
  rw [e]
  exact trimN_snoc _ h
theorem leftC_last {ns ms : List Int} (h1 : 0 < ms.length) (h2 : ms.length ≤ ns.length) : leftC ns ms (ns.length - 1) = 0 := by
  unfold leftC
  rw [if_pos (by omega), getLastD_getD, getLastD_getD]
  have e : ns.length - 1 - (ns.length - ms.length) = ms.length - 1 := by omega
  rw [e, Int.sub_self]
theorem leftC_short {ns ms : List Int} (h1 : 0 < ms.length) (h2 : ms.length ≤ ns.length) : (trimN ((List.range ns.length).map (leftC ns ms))).length + 1 ≤ ns.length := by
  obtain ⟨n, e⟩ : ∃ n, ns.length = n + 1 := ⟨ns.length - 1, by omega⟩
  have e2 := leftC_last h1 h2
  rw [e] at e2 ⊢
  rw [List.range_succ, List.map_append, List.map_singleton]
  have e3 : leftC ns ms n = 0 := e2
  rw [e3, trimN_snoc0]
  have := trimN_len ((List.range n).map (leftC ns ms))
  rw [List.length_map, List.length_range] at this
  omega
theorem leftC_bits {n : Nat} {ns ms : List Int} (hn : Sm n ns) (hm : Sm 1000000 ms) (i : Nat) : Builtin.Int.intBits (leftC ns ms i) ≤ n + 1000001 := by
  unfold leftC
  have h1 := intBits_mul_le (hn.getD i) hm.last
  have h2 : Builtin.Int.intBits (if ns.length - ms.length ≤ i then ns.getLastD 0 * ms.getD (i - (ns.length - ms.length)) 0 else 0) ≤ n + 1000000 := by
    split
    · exact intBits_mul_le hn.last (hm.getD _)
    · exact Nat.zero_le _
  have h3 := intBits_add_le (n := n + 1000000) h1 (intBits_neg_le h2)
  rw [Int.sub_eq_add_neg]
  exact Nat.le_trans h3 (by rw [Nat.max_self]; omega)
theorem outer_turn {ms cns out ys : List Int} {fuel k : Nat} (hm0 : ms ≠ []) (h1 : cns.length ≤ fuel) (h2 : k + cns.length ≤ 8) (h3 : Sm (1000001 * (k + 1)) cns) (sm : Sm 1000000 ms) (h4 : leftN fuel cns ms = out) (h5 : ms.length ≤ cns.length)
    (e : trimN ((List.range cns.length).map (leftC cns ms)) = ys) : (∃ fuel k : Nat, ys.length ≤ fuel ∧ k + ys.length ≤ 8 ∧ Sm (1000001 * (k + 1)) ys ∧ leftN fuel ys ms = out) ∧ ys.length < cns.length := by
  have hm1 := List.length_pos_iff.mpr hm0
  have hs := leftC_short hm1 h5
  obtain ⟨f, rfl⟩ : ∃ f, fuel = f + 1 := ⟨fuel - 1, by omega⟩
  rw [leftN_go h5] at h4
  subst e
  refine ⟨⟨f, k + 1, by omega, by omega, ?_, h4⟩, by omega⟩
  refine Sm.trim ?_
  intro x hx
  obtain ⟨i, _, rfl⟩ := List.mem_map.mp hx
  have := leftC_bits h3 sm i
  have e8 : 1000001 * (k + 1 + 1) = 1000001 * (k + 1) + 1000001 := by omega
  rw [e8]
  exact this
theorem ints_snoc {vs : List Value} {l : List Int} (h : IntsAre vs l) (k : Int) (t : Tok) : IntsAre (vs ++ [.int k t]) (l ++ [k]) := by
  induction h with
  | nil => exact .cons _ _ .nil
  | cons n t' _ ih => exact .cons _ _ ih
theorem leftC_a {ns ms : List Int} {i : Nat} (h1 : 0 < ms.length) (h2 : (ms.length : Int) ≤ ns.length) (h : (ns.length : Int) - ms.length ≤ i) :
    ns.getD i 0 * ms.getD (-1 + (ms.length : Int)).toNat 0 - ns.getD (-1 + (ns.length : Int)).toNat 0 * ms.getD ((i : Int) - ((ns.length : Int) - ms.length)).toNat 0 = leftC ns ms i := by
  have e1 : (-1 + (ms.length : Int)).toNat = ms.length - 1 := by omega
  have e2 : (-1 + (ns.length : Int)).toNat = ns.length - 1 := by omega
  have e3 : ((i : Int) - ((ns.length : Int) - ms.length)).toNat = i - (ns.length - ms.length) := by omega
  unfold leftC
  rw [if_pos (by omega), getLastD_getD, getLastD_getD, e1, e2, e3]
theorem leftC_b {ns ms : List Int} {i : Nat} (h1 : 0 < ms.length) (h2 : (ms.length : Int) ≤ ns.length) (h : ¬ (ns.length : Int) - ms.length ≤ i) :
    ns.getD i 0 * ms.getD (-1 + (ms.length : Int)).toNat 0 - 0 = leftC ns ms i := by
  have e1 : (-1 + (ms.length : Int)).toNat = ms.length - 1 := by omega
  unfold leftC
  rw [if_neg (by omega), getLastD_getD, e1]
section
local macro_rules | `(tactic| walk_at "exec While Compare cons nil") => `(tactic| refine Stop.out ?_)
local macro_rules | `(tactic| walk_at "exec While BoolOp cons nil") => `(tactic| refine Stop.out ?_)
local macro_rules | `(tactic| walk_at "exec Assign cons ListComp") => `(tactic| refine Stop.out ?_)
local macro_rules | `(tactic| walk_at "call type:enumerate") => `(tactic| refine Stop.out ?_)
local macro_rules | `(tactic| walk_at "binaryOp Mult int int") => `(tactic| refine P.mul_int ?_ (IntMulOk.of_le (m := 60000000) (n := 60000000) (Sm.getD (by assumption) _) (Sm.getD (by assumption) _) (by decide)))
local macro_rules | `(tactic| walk_at "compareOp NotEq ref ref") => `(tactic| refine ke_ne_ints (by is_list) (ys := []) (by is_list) (by assumption) .nil (hdV (by assumption) (by decide)) ?_)
theorem left_ok (w : World) (a b : Addr) (ns ms : List Int) (hn : ns.length ≤ 8) (hm : ms.length ≤ 8) (hm0 : ms ≠ []) (sn : Sm 1000000 ns) (sm : Sm 1000000 ms) :
    CallOk w 200 [.ref a, .ref b] 11 (fun h => IntsAt a ns h ∧ IntsAt b ms h) (RetInts (leftN ns.length ns ms)) := by
  refine enterCH [("a", .ref a), ("b", .ref b)] (by k_is) (by k_is) (fun _ => BindsTo.of_eq rfl) (kindsX rfl) (by decide +kernel) rfl rfl rfl ?_
  intro mean mg mb dp un gd h₀ s L Qb cells base outer hQb F N Y X T B hd hu ⟨⟨vs, hl, hi⟩, ⟨us, hl', hi'⟩⟩
  have hlen := hi.length
  have hlen' := hi'.length
  have hm1 := List.length_pos_iff.mpr hm0
  k_cells Y
  generalize hK1 : L + 1 = K1 at *
  repeat' (first | (k_unfold; (try dsimp only)) | walk1 | (dsimp only; walk1) | (leave1; (try dsimp only)) | fail "no step")
  refine Stop.mk ?_
  rename Fr _ _ _ _ => F1
  rename News _ _ _ _ => N1
  rename_i o1 o2 o3 d1 d2 d3 D0 c0 _ l1 _
  have e0 : ∃ fuel k : Nat, ns.length ≤ fuel ∧ k + ns.length ≤ 8 ∧ Sm (1000001 * (k + 1)) ns ∧ leftN fuel ns ms = leftN ns.length ns ms := ⟨ns.length, 0, Nat.le_refl _, by omega, sn.mono (by omega), rfl⟩
  refine ksw_whileH (σ := LfS) (fun c => [(c.a, lst c.vs c.n), (K1 + 1 + 1, c.o1), (K1 + 1, c.o2), (K1, o3)]) (fun c => [("a", .ref c.a)]) (fun c => IntsAre c.vs c.ns ∧ (∃ y, c.o1.data = .cell y) ∧ (∃ y, c.o2.data = .cell y) ∧ (@Ne Nat c.a (K1 + 1 + 1) ∧ @Ne Nat c.a (K1 + 1) ∧ @Ne Nat c.a (K1)))
    [] (fun c => ∃ fuel k : Nat, c.ns.length ≤ fuel ∧ k + c.ns.length ≤ 8 ∧ Sm (1000001 * (k + 1)) c.ns ∧ leftN fuel c.ns ms = leftN ns.length ns ms) (fun c => c.ns.length) ⟨D0, vs, _, ns, o1, o2⟩ F1 (kst_newsOf N1 (by kst_in)) ⟨hi, ⟨_, d1⟩, ⟨_, d2⟩, by k_ne, by k_ne, by k_ne⟩ (by kst_all) e0 ?_
  · clear F1 N1
    intro c ku s1 Qt Qf hUt hUr hUf kFacts kP kF kN
    obtain ⟨hci, ⟨y1, hy1⟩, ⟨y2, hy2⟩, ne1, ne2, ne3⟩ := kFacts
    obtain ⟨fuel, k, h1, h2, h3, h4⟩ := kP
    have hcl := hci.length
    repeat' (first | (k_unfold; (try dsimp only)) | walk1 | (dsimp only; walk1) | (leave1; (try dsimp only)) | fail "no step")
    · refine Stop.mk ?_
      rename Fr _ _ _ _ => F2
      rename News _ _ _ _ => N2
      refine Assign_ListComp_E F2 (by rfl) (by with_unfolding_all rfl) (by with_unfolding_all rfl) (by decide) (by rfl) (by decide) (by rfl) (by rfl) (by decide) (by rfl) (by rfl) ?_
      repeat' (first | (k_unfold; (try dsimp only)) | walk1 | (dsimp only; walk1) | (leave1; (try dsimp only)) | fail "no step")
      refine Stop.mk ?_
      refine enum_comp (vs := c.vs) (fun i ys => IntsAre ys ((List.range i).map (leftC c.ns ms))) rfl F2 N2 (by is_list) (by simp only [sizeLine_eq]; omega) .nil (fun g tk9 => ⟨?_, ?_⟩)
      · intro i ys v t C oC D m₂ h tk E' hJ hv hC hx hx2 F3 N3
        have hi9 : i < c.ns.length := by
          have := List.getElem?_eq_some_iff.mp hv
          obtain ⟨hh, _⟩ := this
          omega
        obtain ⟨t5, e5⟩ := hci.int_at i v hv
        subst e5
        have s3 : Sm 60000000 c.ns := h3.mono (by omega)
        have s4 : Sm 60000000 ms := sm.mono (by omega)
        repeat' (first | (k_unfold; (try dsimp only)) | walk1 | (dsimp only; walk1) | (leave1; (try dsimp only)) | fail "no step")
        · rw [List.range_succ, List.map_append, List.map_singleton, ← leftC_a hm1 (by assumption) (by assumption)]
          exact ints_snoc hJ _ _
        · rw [List.range_succ, List.map_append, List.map_singleton, ← leftC_b hm1 (by assumption) (by assumption)]
          exact ints_snoc hJ _ _
      · intro ys hys D h9 tk9' F3 N3 o1
        rename_i _ o4 d4 _ o5 d5
        have hyl := hys.length
        rw [List.length_map, List.length_range] at hyl
        simp only [LCg.Off1] at o1
        repeat' (first | (k_unfold; (try dsimp only)) | walk1 | (dsimp only; walk1) | (leave1; (try dsimp only)) | fail "no step")
        refine Stop.mk ?_
        rename Fr _ _ _ _ => F5
        rename News _ _ _ _ => N5
        rw [hcl] at hys
        refine ksw_whileH (σ := LI) (fun c1 => [(D, lst c1.vs c1.n), (K1 + 1 + 1, o5), (K1 + 1, o4), (K1, o3)]) (fun _ => [("a", .ref D)]) (fun c1 => IntsAre c1.vs c1.ns)
          [] (fun c1 => c1.ns.length ≤ c.ns.length ∧ trimN c1.ns = trimN ((List.range c.ns.length).map (leftC c.ns ms))) (fun c1 => c1.ns.length) ⟨ys, _, _⟩ F5 (kst_newsOf N5 (by kst_in)) hys (by kst_all) ⟨by simp, rfl⟩ ?_
        clear F5 N5
        intro c1 ku1 s2 Qt2 Qf2 hUt2 _ hUf2 hc1 kP1 kF1 kN1
        obtain ⟨g1, g2⟩ := kP1
        have hc1l := hc1.length
        by_cases hz : c1.ns = []
        · repeat' (first | (k_unfold; (try dsimp only)) | walk1 | (dsimp only; walk1) | (leave1; (try dsimp only)) | fail "no step")
          refine hUf2 ?_
          repeat' (first | (k_unfold; (try dsimp only)) | walk1 | (dsimp only; walk1) | (leave1; (try dsimp only)) | fail "no step")
          have e2 : trimN ((List.range c.ns.length).map (leftC c.ns ms)) = c1.ns := by rw [← g2, hz]; rfl
          rename News _ _ _ _ => N6
          refine hUt (ksw_end (⟨D, c1.vs, c1.n, c1.ns, o5, o4⟩ : LfS) (by assumption) N6 (by kst_in) ⟨hc1, ⟨_, d5⟩, ⟨_, d4⟩, Ne.symm o1.2.2.1, Ne.symm o1.2.2.2.1, Ne.symm o1.2.2.2.2.1⟩ (by kst_all) (by ksw_same) (outer_turn hm0 h1 h2 h3 sm h4 (by omega) e2).1 (outer_turn hm0 h1 h2 h3 sm h4 (by omega) e2).2)
        · have hz1 := List.length_pos_iff.mpr hz
          repeat' (first | (k_unfold; (try dsimp only)) | walk1 | (dsimp only; walk1) | (leave1; (try dsimp only)) | fail "no step")
          · rename News _ _ _ _ => N6
            have e9 : c1.ns.getD (-1 + (c1.ns.length : Int)).toNat 0 = 0 := by assumption
            refine hUt2 (ksw_end (⟨c1.vs.dropLast, _, c1.ns.dropLast⟩ : LI) (by assumption) N6 (by kst_in) (by assumption) (by kst_all) (by ksw_same) ⟨by simp only [List.length_dropLast]; omega, by rw [trim_drop hz e9]; exact g2⟩ (by simp only [List.length_dropLast]; omega))
          · refine hUf2 ?_
            repeat' (first | (k_unfold; (try dsimp only)) | walk1 | (dsimp only; walk1) | (leave1; (try dsimp only)) | fail "no step")
            rename News _ _ _ _ => N6
            have e9 : c1.ns.getD (-1 + (c1.ns.length : Int)).toNat 0 ≠ 0 := by assumption
            have e2 : trimN ((List.range c.ns.length).map (leftC c.ns ms)) = c1.ns := by rw [← g2]; exact trim_keep hz e9
            refine hUt (ksw_end (⟨D, c1.vs, c1.n, c1.ns, o5, o4⟩ : LfS) (by assumption) N6 (by kst_in) ⟨hc1, ⟨_, d5⟩, ⟨_, d4⟩, Ne.symm o1.2.2.1, Ne.symm o1.2.2.2.1, Ne.symm o1.2.2.2.2.1⟩ (by kst_all) (by ksw_same) (outer_turn hm0 h1 h2 h3 sm h4 (by omega) e2).1 (outer_turn hm0 h1 h2 h3 sm h4 (by omega) e2).2)
    · refine hUf ?_
      repeat' (first | (k_unfold; (try dsimp only)) | walk1 | (dsimp only; walk1) | (leave1; (try dsimp only)) | fail "no step")
      refine hQb kF ?_
      have h5 : ¬ ms.length ≤ c.ns.length := by omega
      rw [leftN_stop h5] at h4
      rw [← h4]
      exact RetInts.of kN (.head _) hci
end
end Mine
end

section
open PySem PySem.W PySem.Calls PySem.Spec PyProof.Rows
namespace Mine
set_option maxRecDepth 100000
set_option maxHeartbeats 4000000
theorem fill_frag_W12 : (fun (_ : OpenLaw) (_ : Params → Frag) => True) PySem.Challenge.rw_pf0034_01 hd.heap_39 := by k_fill; trivial
/-! _law_plain -/
structure PlS where
  o : Obj
  w : Int
  t : Tok
structure PlI where
  o : Obj
  w : Int
  t : Tok
  b : Int
  tb : Tok
theorem OffW.one {I : Addr} {o : Obj} : ∀ {l : List (Addr × Obj)}, (∀ p ∈ l, @LT.lt Nat _ p.1 I) → OffW [(I, o)] l
  | [], _ => trivial
  | _ :: _, h => ⟨⟨.inl (Nat.ne_of_lt (h _ (.head _))), trivial⟩, OffW.one fun p hp => h p (.tail _ hp)⟩
section
local macro_rules | `(tactic| walk_at "exec While Compare cons nil") => `(tactic| refine Stop.out ?_)
local macro_rules | `(tactic| walk_at "exec For Name Name cons nil") => `(tactic| refine Stop.out ?_)
local macro_rules | `(tactic| walk_at "pyIter ref") => `(tactic| refine Stop.out ?_)
local macro_rules | `(tactic| walk_at "binaryOp FloorDiv int int") => `(tactic| refine floordiv_int (by assumption) ?_ (Or.inr (PylongRoom.of (Heap.NoLimit.keeps (Top.nolimit (by assumption)) (Fr.keep (by assumption))) (by show _ + 100 < 1000; (simp only [recursionLimit] at *); omega) (SeerAt.of (Heap.NoSeer.keeps (Top.seer (by assumption) (by decide +kernel)) (Fr.keep (by assumption))) rfl rfl rfl rfl rfl rfl))))
theorem plain_ok (w : World) (a : Addr) (ns : List Int) (hn : ns.length ≤ 8) (h0 : ns.getLastD 0 ≠ 0) (sn : Sm 60000000 ns) :
    CallOk w 205 [.ref a] 111 (IntsAt a ns) (RetInts (primN ns)) := by
  refine enterCH [("a", .ref a)] (by k_is) (by k_is) (fun _ => BindsTo.of_eq rfl) (kindsX rfl) (by decide +kernel) rfl rfl rfl ?_
  intro mean mg mb dp un gd h₀ s L Qb cells base outer hQb F N Y X T B hd hu ⟨vs, hl, hi⟩
  have hlen := hi.length
  have hn0 : ns ≠ [] := by intro e; rw [e] at h0; exact h0 rfl
  have hn1 := List.length_pos_iff.mpr hn0
  have hc0 := contN_ne h0
  k_cells Y
  generalize hK1 : L + 1 = K1 at *
  repeat' (first | (k_unfold; (try dsimp only)) | walk1 | (dsimp only; walk1) | (leave1; (try dsimp only)) | fail "no step")
  refine Stop.mk ?_
  rename Fr _ _ _ _ => F1
  rename News _ _ _ _ => N1
  rename_i _ o2 _ d2 _ o0 d0
  refine For_turns F1 ?_
  repeat' (first | (k_unfold; (try dsimp only)) | walk1 | (dsimp only; walk1) | (leave1; (try dsimp only)) | fail "no step")
  refine Stop.mk ?_
  refine iter_list rfl F1 (kst_newsOf N1 (l' := [(K1 + 1, o0), (K1, o2)]) (by kst_in)) (.inl ⟨rfl, hl⟩) (fun I hI => ?_)
  have hCI : @LT.lt Nat _ (K1 + 1) I := hI _ (.head _)
  refine for_stH (σ := PlS) (fun c => [(K1 + 1, c.o), (K1, o2)]) (fun _ => []) ["one"] (fun q c => ∃ us zs, q = us.map Itm.val ∧ IntsAre us zs ∧ c.o.data = .cell (some (.int c.w c.t)) ∧ 0 ≤ c.w ∧ zs.foldl (fun (g : Int) x => (Int.gcd g x : Int)) c.w = contN ns) ⟨o0, 0, _⟩ (by kst_all) ⟨vs, ns, rfl, hi, d0, Int.le_refl _, rfl⟩ ?_ ?_
  · clear F1 N1
    rintro q r1 c u v s1 ⟨us1, zs, e, hu1, hco, hw, hp⟩ hq F2
    refine AllObj.cons fun o ho => AllObj.nil ?_
    intro N2 Qt hUt hUr
    cases hu1 with
    | nil => cases e
    | cons x t hu2 =>
      cases e
      cases hq
      simp only [List.cons_append, List.nil_append] at N2
      repeat' (first | (k_unfold; (try dsimp only)) | walk1 | (dsimp only; walk1) | (leave1; (try dsimp only)) | fail "no step")
      refine Stop.mk ?_
      rename Fr _ _ _ _ => F3
      rename News _ _ _ _ => N3
      refine ksw_whileH (σ := PlI) (fun c1 => [(I, o), (K1 + 1, c1.o), (K1, o2)]) (fun c1 => [("one", .int c1.b c1.tb)]) (fun c1 => c1.o.data = .cell (some (.int c1.w c1.t))) [] (fun c1 => 0 ≤ c1.w ∧ 0 ≤ c1.b ∧ Int.gcd c1.w c1.b = Int.gcd c.w x) (fun c1 => c1.b.toNat) ⟨c.o, c.w, c.t, _, _⟩ F3 (kst_newsOf N3 (by kst_in)) hco (by kst_all) ?_ ?_
      · dsimp only
        refine ⟨hw, by split <;> omega, ?_⟩
        split <;> simp
      · clear F3 N3
        intro c1 ku1 s2 Qt2 Qf2 hUt2 _ hUf2 hc1 kP1 kF1 kN1
        obtain ⟨g1, g2, g3⟩ := kP1
        repeat' (first | (k_unfold; (try dsimp only)) | walk1 | (dsimp only; walk1) | (leave1; (try dsimp only)) | fail "no step")
        · have q := gcd_turn (a := c1.w) g2 (by assumption)
          rename News _ _ _ _ => N6
          exact hUt2 (ksw_end (⟨_, c1.b, c1.tb, c1.w.fmod c1.b, _⟩ : PlI) (by assumption) N6 (by kst_in) (by assumption) (by kst_all) (by ksw_same) ⟨g2, q.1, q.2.1.trans g3⟩ q.2.2)
        · have e0 : c1.b = 0 := by assumption
          refine hUf2 ?_
          repeat' (first | (k_unfold; (try dsimp only)) | walk1 | (dsimp only; walk1) | (leave1; (try dsimp only)) | fail "no step")
          rename News _ _ _ _ => N6
          refine hUt (for_end (⟨c1.o, c1.w, c1.t⟩ : PlS) (by assumption) N6 ⟨.head _, trivial⟩ ⟨.tail _ (.head _), .tail _ (.tail _ (.head _)), trivial⟩ ?_ trivial (by kst_all) (by ksw_same) ⟨_, _, rfl, hu2, hc1, g1, ?_⟩)
          · refine OffW.one ?_
            refine List.forall_mem_cons.mpr ⟨?_, List.forall_mem_cons.mpr ⟨?_, List.forall_mem_nil _⟩⟩
            · show @LT.lt Nat _ (K1 + 1) I
              exact hCI
            · show @LT.lt Nat _ (K1) I
              omega
          · have e1 : c1.w = (Int.gcd c.w x : Int) := by rw [← g3, e0, Int.gcd_zero_right]; omega
            dsimp only
            rw [e1]
            exact hp
  · clear F1 N1
    rintro c u h tk ⟨us1, zs, e, hu1, hco, hw, hp⟩ F2 N2
    cases hu1 with
    | nil =>
      have hw2 : c.w = contN ns := hp
      have hw3 : c.w ≠ 0 := by rw [hw2]; exact hc0
      have hw4 : -c.w ≠ 0 := by omega
      repeat' (first | (k_unfold; (try dsimp only)) | walk1 | (dsimp only; walk1) | (leave1; (try dsimp only)) | fail "no step")
      rename News _ _ _ _ => N4
      rename IntsAre _ _ => hI4
      refine hQb (by assumption) (RetInts.of N4 (.head _) ?_)
      have e2 : (-1 + (ns.length : Int)).toNat = ns.length - 1 := by omega
      rw [e2, ← getLastD_getD] at hI4
      unfold primN divN
      rw [if_neg hn0, ← hw2]
      split at hI4 <;> rename_i hq
      · rw [if_pos hq]; exact hI4
      · rw [if_neg hq]; exact hI4
    | cons n t h9 => cases e
end
end Mine
end

section
open PySem PySem.W PySem.Calls PySem.Spec PyProof.Rows
namespace Mine
set_option maxRecDepth 100000
set_option maxHeartbeats 4000000
theorem fill_frag_W13 : (fun (_ : OpenLaw) (_ : Params → Frag) => True) PySem.Challenge.rw_pf0034_01 hd.heap_39 := by k_fill; trivial
/-! _law_minors -/
theorem SubL.of {l l' : List (Addr × Obj)} (h : ∀ p ∈ l, p ∈ l') : SubL l l' := by
  induction l with
  | nil => trivial
  | cons p r ih => exact ⟨h p (.head _), ih fun q hq => h q (.tail _ hq)⟩
theorem OffW.ne {I : Addr} {o : Obj} {l : List (Addr × Obj)} (h : ∀ p ∈ l, @Ne Nat p.1 I) : OffW [(I, o)] l := by
  induction l with
  | nil => trivial
  | cons p r ih => exact ⟨⟨.inl (h p (.head _)), trivial⟩, ih fun q hq => h q (.tail _ hq)⟩
theorem line_of {ns : List Int} {i wd : Nat} (h : i + ns.length ≤ wd) : (List.replicate (0 + (i : Int)).toNat [(0 : Int)]).flatten ++ ns.reverse ++ (List.replicate ((wd : Int) - (((List.replicate (0 + (i : Int)).toNat [(0 : Int)]).flatten.length + ns.reverse.length : Nat) : Int)).toNat [(0 : Int)]).flatten = lineN wd i ns := by
  have e1 : (0 + (i : Int)).toNat = i := by omega
  have e2 : ∀ k : Nat, (List.replicate k [(0 : Int)]).flatten = List.replicate k 0 := fun k => by simp
  rw [e1, e2, e2, List.length_replicate, List.length_reverse]
  have e3 : ((wd : Int) - ((i + ns.length : Nat) : Int)).toNat = wd - (i + ns.length) := by omega
  rw [e3]
  rfl
theorem tail_ne {led : List (Addr × Obj)} {I d : Addr} (h : ∀ p ∈ led, @LT.lt Nat _ I p.1) (h2 : @LT.lt Nat _ d I) : ∀ p ∈ led, p.1 ≠ d := fun p hp => by
  have := h p hp
  show @Ne Nat _ _
  omega
theorem lineN_len {wd i : Nat} {p : List Int} (h : i + p.length ≤ wd) : (lineN wd i p).length = wd := by
  unfold lineN
  simp
  omega
theorem Sm.line {n wd i : Nat} {p : List Int} (h : Sm n p) : Sm n (lineN wd i p) := by
  intro x hx
  unfold lineN at hx
  simp only [List.mem_append, List.mem_replicate, List.mem_reverse] at hx
  rcases hx with (hx | hx) | hx
  · rw [hx.2]; exact Nat.zero_le _
  · exact h x hx
  · rw [hx.2]; exact Nat.zero_le _
theorem line_fit : ∀ (n m : Fin 5) (o : Fin 3) (i : Fin 5), o.val + 2 ≤ n.val → o.val + 2 ≤ m.val → (i.val < m.val - 1 - o.val → i.val + n.val ≤ n.val - 1 + (m.val - 1) - o.val) ∧ (i.val < n.val - 1 - o.val → i.val + m.val ≤ n.val - 1 + (m.val - 1) - o.val) := by decide +kernel
theorem sizes_fin : ∀ (n m : Fin 5) (o : Fin 3), o.val + 2 ≤ n.val → o.val + 2 ≤ m.val →
    ((n.val : Int) - 1 + ((m.val : Int) - 1) - (o.val : Int) = ((n.val - 1 + (m.val - 1) - o.val : Nat) : Int) ∧ (m.val : Int) - 1 - (o.val : Int) = ((m.val - 1 - o.val : Nat) : Int) ∧ (n.val : Int) - 1 - (o.val : Int) = ((n.val - 1 - o.val : Nat) : Int) ∧ (n.val : Int) - 1 + ((m.val : Int) - 1) - 2 * (o.val : Int) = ((n.val - 1 + (m.val - 1) - 2 * o.val : Nat) : Int)) ∧
    (m.val - 1 - o.val ≤ 3 ∧ n.val - 1 - o.val ≤ 3 ∧ m.val - 1 - o.val + n.val ≤ n.val - 1 + (m.val - 1) - o.val + 1 ∧ n.val - 1 - o.val + m.val ≤ n.val - 1 + (m.val - 1) - o.val + 1) ∧ n.val - 1 + (m.val - 1) - o.val ≤ 6 ∧ (2 : Int) ≤ ((n.val - 1 + (m.val - 1) - 2 * o.val : Nat) : Int) ∧ (o.val ≤ 6 ∧ o.val + 2 ≤ n.val - 1 + (m.val - 1) - o.val) ∧ m.val - 1 - o.val + (n.val - 1 - o.val) ≤ 7 := by decide +kernel
theorem linesN_ok {ns ms : List Int} {o wd : Nat} (hwd : wd = ns.length - 1 + (ms.length - 1) - o) (hn : ns.length < 5) (hm : ms.length < 5) (ho : o < 3) (hon : o + 2 ≤ ns.length) (hom : o + 2 ≤ ms.length) (sn : Sm 1000000 ns) (sm : Sm 1000000 ms) : ∀ q ∈ linesN ns ms o, q.length = wd ∧ Sm 1000000 q := by
  intro q hq
  unfold linesN at hq
  rw [← hwd] at hq
  rw [List.mem_append, List.mem_map, List.mem_map] at hq
  rcases hq with ⟨i, hi, rfl⟩ | ⟨i, hi, rfl⟩ <;> rw [List.mem_range] at hi
  · have h5 : i < 5 := Nat.lt_of_lt_of_le hi (Nat.le_trans (Nat.sub_le _ _) (Nat.le_trans (Nat.sub_le _ _) (Nat.le_of_lt hm)))
    exact ⟨lineN_len (hwd ▸ (line_fit ⟨_, hn⟩ ⟨_, hm⟩ ⟨_, ho⟩ ⟨_, h5⟩ hon hom).1 hi), sn.line⟩
  · have h5 : i < 5 := Nat.lt_of_lt_of_le hi (Nat.le_trans (Nat.sub_le _ _) (Nat.le_trans (Nat.sub_le _ _) (Nat.le_of_lt hn)))
    exact ⟨lineN_len (hwd ▸ (line_fit ⟨_, hn⟩ ⟨_, hm⟩ ⟨_, ho⟩ ⟨_, h5⟩ hon hom).2 hi), sm.line⟩
theorem wd_i (wd i : Nat) : ((wd : Int) - 1 - (0 + (i : Int))).toNat = wd - 1 - i := by omega
theorem linesN_len (ns ms : List Int) (o : Nat) : (linesN ns ms o).length = (ms.length - 1 - o) + (ns.length - 1 - o) := by simp [linesN]
theorem allLt_mem {d : Nat} : ∀ {l : List (Addr × Obj)}, AllLt d l → ∀ p ∈ l, @LT.lt Nat _ p.1 d
  | [], _, _, h => nomatch h
  | q :: r, hl, p, h => by
    rcases List.mem_cons.mp h with rfl | h
    · exact hl.1
    · exact allLt_mem hl.2 p h
def AP (ds : List Addr) (led : List (Addr × Obj)) : Prop := ∀ d ∈ ds, NEs d led
theorem AP.at {ds : List Addr} {led : List (Addr × Obj)} {d : Addr} (h : AP ds led) (m : d ∈ ds) : NEs d led := h d m
theorem AP.nil {ds : List Addr} : AP ds [] := fun _ _ => NEs.nil
theorem AP.add {ds : List Addr} {led : List (Addr × Obj)} {d : Addr} (h : AP ds led) (h1 : NEs d led) : AP (d :: ds) led := fun x hx => by
  rcases List.mem_cons.mp hx with rfl | hx
  · exact h1
  · exact h x hx
theorem AP.new {ds : List Addr} {led all : List (Addr × Obj)} {D : Addr} {o : Obj} (h : AP ds led) (l : LtAll D all) (m : ∀ d ∈ ds, ∃ o, (d, o) ∈ all) : AP ds ((D, o) :: led) := fun d hd => by
  obtain ⟨o', ho⟩ := m d hd
  exact NEs.cons (Nat.ne_of_gt (l _ ho)) (h d hd)
structure MP where
  op : Obj
  fvs : List Value
  nf : Nat
structure MS where
  rvs : List Value
  n : Nat
  led : List (Addr × Obj)
  om : Obj
theorem size_ok {vs : List Value} {n : Nat} (h : vs.length = n) (hn : n ≤ 100) : vs.toArray.size ≤ sizeLine := by
  rw [sizeLine_eq, List.size_toArray, h]
  omega
theorem isTup_of {h₀ h : Heap} {L D : Addr} {o : Obj} {vs : Array Value} {news : List (Addr × Obj)} (N : News h₀ L h news) (hm : (D, o) ∈ news) (e : ({ cls := .type "tuple", data := .seq vs } : Obj) = o) : IsTup h D vs :=
  ⟨o, (N _ hm).1, e ▸ rfl, 0, e ▸ rfl⟩
/-- what a turn of the outer loop is given -/
def Given (h₀ h : Heap) (DX X : Addr) (xv : List Value) (xs : List Int) (cnt : Nat) (tx : Tok) (wd : Nat) : Prop := IsTup h DX #[.ref X, .int (cnt : Int) tx] ∧ h₀.IsList X xv.toArray ∧ IntsAre xv xs ∧ xs.length ≤ 4 ∧ cnt ≤ 3 ∧ cnt + xs.length ≤ wd + 1
section
variable {prog : Program} {w : World} {A : Around} {E : Value → Shared → Prop} {s : Shared}
theorem item_int {value slice : Expr} {l : Addr} {vs : List Value} {ns : List Int} {k : Int} {u : Tok} {Q : Value → Shared → Prop} (hl : s.heap.IsList l vs.toArray) (hi : IntsAre vs ns) (h0 : 0 ≤ k) (h1 : k.toNat < ns.length)
    (h : ∀ t, Q (.int (ns.getD k.toNat 0) t) s) (hf : k < 2 ^ 63 := by omega)
    (hs : subscripted slice false (.ref l) (.int k u) = operate [.ref l, .int k u] (getItem (.ref l) (.int k u)) := by with_unfolding_all rfl) :
    wpAny (model prog w) A (subscriptTail value slice (.ref l) (.int k u)) Q E s := by
  have hv : vs[k.toNat]? = some (vs[k.toNat]'(by rw [hi.length]; exact h1)) := List.getElem?_eq_getElem _
  obtain ⟨t, e⟩ := hi.int_at _ _ hv
  rw [e] at hv
  exact item_listR hl h0 hf (by simpa using hv) (h t) hs
end
section
local macro_rules | `(tactic| kmk_nums) => `(tactic| first | (with_reducible refine' kmk_upto ?gi ?gx; (case gi => assumption); (case gx => omega)) | (with_reducible refine' kmk_from ?gi ?gx; (case gi => assumption); (case gx => omega)))
local macro_rules | `(tactic| walk_at "exec While BoolOp cons nil") => `(tactic| refine Stop.out ?_)
local macro_rules | `(tactic| walk_at "compareOp NotEq ref ref") => `(tactic| refine ke_ne_ints (by is_list) (ys := []) (by is_list) (by assumption) .nil (hdV (by assumption) (by decide)) ?_)
local macro_rules | `(tactic| walk_at "subscriptTail Name BinOp ref int") => `(tactic| (refine item_int (by is_list) (by assumption) (by omega) (by omega) ?_; intro t9))
local macro_rules | `(tactic| walk_at "eval ListComp") => `(tactic| refine Stop.out ?_)
local macro_rules | `(tactic| walk_at "CompSrc") => `(tactic| refine Stop.out ?_)
local macro_rules | `(tactic| walk_at "call ref") => `(tactic| refine Stop.out ?_)
local macro_rules | `(tactic| k_all) => `(tactic| exact AP.at (by assumption) (by (repeat (first | with_reducible exact List.mem_cons_self | with_reducible refine List.mem_cons_of_mem _ ?_))))
local macro_rules | `(tactic| walk_at "pyIter ref") => `(tactic| refine Stop.out ?_)
local macro_rules | `(tactic| walk_at "call builtin:list.append") => `(tactic| refine Stop.out ?_)
local macro_rules | `(tactic| walk_at "call type:range") => `(tactic| refine Stop.out ?_)
local macro_rules | `(tactic| walk_at "exec While Compare cons nil") => `(tactic| refine Stop.out ?_)
local macro_rules | `(tactic| walk_at "exec For Name Call cons nil") => `(tactic| refine Stop.out ?_)
set_option maxHeartbeats 40000000 in
theorem minors_ok (w : World) (a b : Addr) (o : Nat) (u : Tok) (ns ms : List Int) (hn : ns.length ≤ 4) (hm : ms.length ≤ 4) (hon : o + 2 ≤ ns.length) (hom : o + 2 ≤ ms.length) (sn : Sm 1000000 ns) (sm : Sm 1000000 ms) :
    CallOk w 195 [.ref a, .ref b, .int (o : Int) u] 19 (fun h => IntsAt a ns h ∧ IntsAt b ms h) (RetInts (minorsN ns ms o)) := by
  refine enterCH [("a", .ref a), ("b", .ref b), ("order", .int (o : Int) u)] (by k_is) (by k_is) (fun _ => BindsTo.of_eq rfl) (kindsX rfl) (by decide +kernel) rfl rfl rfl ?_
  intro mean mg mb dp un gd h₀ s L Qb cells base outer hQb F N Y X T B hd hu ⟨⟨vs, hl, hi⟩, ⟨us, hl', hi'⟩⟩
  have hlen := hi.length
  have hlen' := hi'.length
  k_cells Y
  generalize hK1 : L + 1 = K1 at *
  have hn5 : ns.length < 5 := Nat.lt_succ_of_le hn
  have hm5 : ms.length < 5 := Nat.lt_succ_of_le hm
  have ho3 : o < 3 := Nat.lt_of_succ_le (Nat.le_of_add_le_add_right (b := 1) (Nat.le_trans hon hn))
  obtain ⟨⟨ew, e1, e2, emn⟩, hk3, hwd6, hmn2, ho6, hk7⟩ := sizes_fin ⟨_, hn5⟩ ⟨_, hm5⟩ ⟨_, ho3⟩ hon hom
  dsimp only at ew e1 e2 emn hk3 hwd6 hmn2 ho6 hk7
  have hLs := linesN_ok rfl hn5 hm5 ho3 hon hom sn sm
  have hLl := linesN_len ns ms o
  have eL : linesN ns ms o = ((List.range (ms.length - 1 - o)).map fun i => lineN (ns.length - 1 + (ms.length - 1) - o) i ns) ++ (List.range (ns.length - 1 - o)).map fun i => lineN (ns.length - 1 + (ms.length - 1) - o) i ms := rfl
  have eM : ∀ i, minorN ns ms o i = detN ((linesN ns ms o).map fun line => line.take (ns.length - 1 + (ms.length - 1) - 2 * o - 1) ++ [line.getD (ns.length - 1 + (ms.length - 1) - o - 1 - i) 0]) := fun i => rfl
  generalize ns.length - 1 + (ms.length - 1) - 2 * o = mn at *
  generalize ns.length - 1 + (ms.length - 1) - o = wd at *
  generalize ms.length - 1 - o = k1 at *
  generalize ns.length - 1 - o = k2 at *
  generalize linesN ns ms o = LN at *
  clear hn5 hm5 ho3
  try dsimp only
  repeat' (first | (k_unfold; (try dsimp only)) | walk1 | (dsimp only; walk1) | (leave1; (try dsimp only)) | fail "no step")
  refine Stop.mk ?_
  rename Fr _ _ _ _ => F1
  rename News _ _ _ _ => N1
  rename_i op om ow0 dop dom dow0 D4 _ _ _ _ _ _ l9 _ lL D3 _ lD3 _ _ ow dw _ D2 _ lD2 D1 _ lD1 D0 _ lD0
  rw [ew] at dw
  rw [e1, e2] at N1
  obtain ⟨oD0, eD0⟩ : ∃ x : Obj, ({ cls := .type "tuple", data := .seq #[.ref D2, .ref D1] } : Obj) = x := ⟨_, rfl⟩
  obtain ⟨oD1, eD1⟩ : ∃ x : Obj, ({ cls := .type "tuple", data := .seq #[.ref b, .int (k2 : Int) (tk + 1)] } : Obj) = x := ⟨_, rfl⟩
  obtain ⟨oD2, eD2⟩ : ∃ x : Obj, ({ cls := .type "tuple", data := .seq #[.ref a, .int (k1 : Int) tk] } : Obj) = x := ⟨_, rfl⟩
  rw [eD0, eD1, eD2] at N1
  have hA0 : AP [l9, K1 + 1 + 1, K1 + 1, K1] [(D0, oD0), (D1, oD1), (D2, oD2)] := .add (.add (.add (.add (fun _ h => nomatch h) (by exact .cons (by k_ne) (.cons (by k_ne) (.cons (by k_ne) (.nil))))) (by exact .cons (by k_ne) (.cons (by k_ne) (.cons (by k_ne) (.nil))))) (by exact .cons (by k_ne) (.cons (by k_ne) (.cons (by k_ne) (.nil))))) (by exact .cons (by k_ne) (.cons (by k_ne) (.cons (by k_ne) (.nil))))
  obtain ⟨m0, -, F2⟩ := seat_fr [("lines", .ref l9), ("high", _), ("low", _), ("order", .int (o : Int) u)] F1 (by kst_all)
  have N2 := kst_newsOf N1 (l' := [(l9, lst [] 0), (K1 + 1 + 1, op), (K1 + 1, om), (K1, ow), (D0, oD0), (D1, oD1), (D2, oD2)]) (by (repeat (refine List.forall_mem_cons.mpr (And.intro (by (repeat (first | exact List.mem_cons_self | refine List.mem_cons_of_mem _ ?_))) ?_))); first | exact List.forall_mem_nil _ | (intro p hp; (repeat (first | exact hp | refine List.mem_cons_of_mem _ ?_))))
  obtain ⟨y1, dop⟩ : ∃ y, op.data = .cell y := ⟨_, dop⟩
  obtain ⟨y2, dom⟩ : ∃ y, om.data = .cell y := ⟨_, dom⟩
  obtain ⟨R1, eR1⟩ : ∃ R1, ((List.range k1).map fun i => lineN wd i ns) = R1 := ⟨_, rfl⟩
  obtain ⟨R2, eR2⟩ : ∃ R2, ((List.range k2).map fun i => lineN wd i ms) = R2 := ⟨_, rfl⟩
  rw [eR1, eR2] at eL
  have lR1 : R1.length = k1 := by rw [← eR1]; simp
  refine Stop.mk (iter_tupTurns rfl F2 N2 (lo := oD0) (vs := [.ref D2, .ref D1]) (n := 0) (by (repeat (first | with_reducible exact List.mem_cons_self | with_reducible refine List.mem_cons_of_mem _ ?_))) (by rw [← eD0]) (by rw [← eD0]) (fun I hI => ?_))
  clear F1 N1 F2 N2
  have hI := LtAll.of hI
  clear ew e1 e2
  refine for_stH (σ := MS) (fun c => (l9, lst c.rvs c.n) :: (K1 + 1 + 1, op) :: (K1 + 1, c.om) :: (K1, ow) :: c.led) (fun _ => [("lines", .ref l9)]) ["one", "at", "line"]
    (fun r c => (∃ y, c.om.data = .cell y) ∧ (D0, oD0) ∈ c.led ∧ (D1, oD1) ∈ c.led ∧ (D2, oD2) ∈ c.led ∧ AP [I, l9, K1 + 1 + 1, K1 + 1, K1] c.led ∧ ((r = [.val (.ref D2), .val (.ref D1)] ∧ RowsL c.led c.rvs []) ∨ (r = [.val (.ref D1)] ∧ RowsL c.led c.rvs R1) ∨ (r = [] ∧ RowsL c.led c.rvs (R1 ++ R2))))
    ⟨[], 0, [(D0, oD0), (D1, oD1), (D2, oD2)], om⟩ (by kst_all) ⟨⟨_, dom⟩, .head _, .tail _ (.head _), .tail _ (.tail _ (.head _)), .add hA0 (by exact .cons (by k_ne) (.cons (by k_ne) (.cons (by k_ne) (.nil)))), .inl ⟨rfl, .nil⟩⟩ ?_ ?_
  · rintro q r c uu v s1 ⟨⟨y3, hom'⟩, m1, m2, m3, hap, hP⟩ hq F2
    refine AllObj.cons fun oi hoi => AllObj.nil ?_
    intro N2 Qt hUt hUr
    simp only [List.cons_append, List.nil_append] at N2
    have hv : ∃ DX X xv xs cnt tx prev, v = .ref DX ∧ Given h₀ s1.heap DX X xv xs cnt tx wd ∧ prev.length ≤ 3 ∧ RowsL c.led c.rvs prev ∧ ∀ (led : List (Addr × Obj)) (rvs : List Value), RowsL led rvs (prev ++ (List.range cnt).map fun i => lineN wd i xs) → (r = [.val (.ref D2), .val (.ref D1)] ∧ RowsL led rvs []) ∨ (r = [.val (.ref D1)] ∧ RowsL led rvs R1) ∨ (r = [] ∧ RowsL led rvs (R1 ++ R2)) := by
      rcases hP with ⟨e, h9⟩ | ⟨e, h9⟩ | ⟨e, h9⟩
      · cases e
        exact ⟨D2, a, vs, ns, k1, tk, [], hq, ⟨isTup_of N2 (.tail _ (.tail _ (.tail _ (.tail _ (.tail _ m3))))) eD2, hl, hi, hn, hk3.1, hk3.2.2.1⟩, by decide, h9, fun led rvs h8 => .inr (.inl ⟨rfl, eR1 ▸ h8⟩)⟩
      · cases e
        exact ⟨D1, b, us, ms, k2, tk + 1, R1, hq, ⟨isTup_of N2 (.tail _ (.tail _ (.tail _ (.tail _ (.tail _ m2))))) eD1, hl', hi', hm, hk3.2.1, hk3.2.2.2⟩, lR1 ▸ hk3.1, h9, fun led rvs h8 => .inr (.inr ⟨rfl, eR2 ▸ h8⟩)⟩
      · cases e
    obtain ⟨DX, X, xv, xs, cnt, tx, prev, rfl, ⟨hT, hx, hxi, hx4, hc3, hcw⟩, hpl, hpr, hnx⟩ := hv
    obtain ⟨mm, em⟩ := the_base F2
    rw [em] at F2
    have hxl := hxi.length
    clear hP hq hon hom hlen hlen' eM eL hLl hLs hk3 lR1 eR1 eR2 eD0 eD1 eD2 hn hm hmn2 ho6 hk7 emn
    repeat' (first | (k_unfold; (try dsimp only)) | walk1 | (dsimp only; walk1) | (leave1; (try dsimp only)) | fail "no step")
    rename Fr _ _ _ _ => F3
    rename News _ _ _ _ => N3
    rename_i om3 dom3
    refine Stop.mk (For_turns F3 ?_)
    repeat' (first | (k_unfold; (try dsimp only)) | walk1 | (dsimp only; walk1) | (leave1; (try dsimp only)) | fail "no step")
    refine Stop.mk (range_for (k := cnt) rfl F3 (kst_newsOf N3 (l' := (l9, lst c.rvs c.n) :: (K1 + 1 + 1, op) :: (K1 + 1, om3) :: (K1, ow) :: (I, oi) :: c.led) (by (repeat (refine List.forall_mem_cons.mpr (And.intro (by (repeat (first | exact List.mem_cons_self | refine List.mem_cons_of_mem _ ?_))) ?_))); first | exact List.forall_mem_nil _ | (intro p hp; (repeat (first | exact hp | refine List.mem_cons_of_mem _ ?_))))) (by omega) (by omega) (fun h tk J hJ => ?_))
    have hJ := LtAll.of hJ
    refine for_stH (σ := MS) (fun c3 => (l9, lst c3.rvs c3.n) :: (K1 + 1 + 1, op) :: (K1 + 1, om3) :: (K1, ow) :: (I, oi) :: c3.led) (fun _ => [("lines", .ref l9), ("one", .ref X)]) ["at", "line"]
      (fun r c3 => ∃ i : Nat, i ≤ cnt ∧ r = (rangeItems 0 cnt).drop i ∧ RowsL c3.led c3.rvs (prev ++ (List.range i).map fun i => lineN wd i xs) ∧ AP [J, I, l9, K1 + 1 + 1, K1 + 1, K1] c3.led ∧ ∀ p ∈ c.led, p ∈ c3.led)
      ⟨c.rvs, c.n, c.led, om3⟩ (by kst_all) ⟨0, Nat.zero_le _, rfl, by simpa using hpr, hap.add (NEs.sub hJ.nes fun p hp => .tail _ (.tail _ (.tail _ (.tail _ (.tail _ hp))))), fun _ h => h⟩ ?_ ?_
    · clear F3 N3
      rintro q r3 c3 uu3 v s2 ⟨i, hi1, hi2, hi3, hap3, hin⟩ hq F4
      refine AllObj.cons fun o8 ho8 => AllObj.nil ?_
      intro N4 Qt2 hUt2 _
      obtain ⟨e1, rfl, e3⟩ := range_turn hi2
      obtain ⟨t4, rfl⟩ := hq
      simp only [List.cons_append, List.nil_append] at N4
      obtain ⟨mm3, em3⟩ := the_base F4
      rw [em3] at F4
      have hrl := hi3.len
      rw [List.length_append, List.length_map, List.length_range] at hrl
      repeat' (first | (k_unfold; (try dsimp only)) | walk1 | (dsimp only; walk1) | (leave1; (try dsimp only)) | fail "no step")
      rename News _ _ _ _ => N5
      rename Fr _ _ _ _ => F5
      rename IntsAre _ (_ ++ _ ++ _) => hI5
      rename LtAll _ _ => lDD
      obtain ⟨DD, ws, eD, eW⟩ := the_list N5
      subst eD eW
      have N6 := kst_newsOf N5 (l' := (DD, lst ws 0) :: (J, o8) :: (l9, lst c3.rvs c3.n) :: (K1 + 1 + 1, op) :: (K1 + 1, om3) :: (K1, ow) :: (I, oi) :: c3.led) (by (repeat (refine List.forall_mem_cons.mpr (And.intro (by (repeat (first | exact List.mem_cons_self | refine List.mem_cons_of_mem _ ?_))) ?_))); first | exact List.forall_mem_nil _ | (intro p hp; (repeat (first | exact hp | refine List.mem_cons_of_mem _ ?_))))
      clear N5
      refine Stop.mk (append_K F5 N6 (Upd.tail (by k_ne) (Upd.tail (by k_ne) (Upd.head (NEs.cons (by k_ne) (NEs.cons (by k_ne) (NEs.cons (by k_ne) (NEs.cons (by k_ne) (hap3.at (by (repeat (first | with_reducible exact List.mem_cons_self | with_reducible refine List.mem_cons_of_mem _ ?_))))))))))) ?_ (size_ok hrl (Nat.le_trans (Nat.add_le_add hpl (Nat.le_of_lt (Nat.lt_of_lt_of_le e1 hc3))) (by decide))))
      intro h5 F6 N7
      clear F5 N6
      simp only [List.push_toArray] at N7
      try dsimp only
      repeat' (first | (k_unfold; (try dsimp only)) | walk1 | (dsimp only; walk1) | (leave1; (try dsimp only)) | fail "no step")
      subst em3
      refine hUt2 (for_end (⟨c3.rvs ++ [.ref DD], c3.n + 1, (DD, lst ws 0) :: c3.led, om3⟩ : MS) (by assumption) (by assumption) ⟨.tail _ (.head _), trivial⟩ (SubL.of (by (repeat (refine List.forall_mem_cons.mpr (And.intro (by (repeat (first | exact List.mem_cons_self | refine List.mem_cons_of_mem _ ?_))) ?_))); first | exact List.forall_mem_nil _ | (intro p hp; (repeat (first | exact hp | refine List.mem_cons_of_mem _ ?_))))) (OffW.ne (NEs.cons (by k_ne) (NEs.cons (by k_ne) (NEs.cons (by k_ne) (NEs.cons (by k_ne) (NEs.cons (by k_ne) (NEs.cons (by k_ne) (hap3.at (by (repeat (first | with_reducible exact List.mem_cons_self | with_reducible refine List.mem_cons_of_mem _ ?_))))))))))) trivial (by kst_all) (by ksw_same) ⟨i + 1, by omega, e3, ?_, AP.new hap3 lDD (List.forall_mem_cons.mpr ⟨⟨_, (by (repeat (first | with_reducible exact List.mem_cons_self | with_reducible refine List.mem_cons_of_mem _ ?_)))⟩, List.forall_mem_cons.mpr ⟨⟨_, (by (repeat (first | with_reducible exact List.mem_cons_self | with_reducible refine List.mem_cons_of_mem _ ?_)))⟩, List.forall_mem_cons.mpr ⟨⟨_, (by (repeat (first | with_reducible exact List.mem_cons_self | with_reducible refine List.mem_cons_of_mem _ ?_)))⟩, List.forall_mem_cons.mpr ⟨⟨_, (by (repeat (first | with_reducible exact List.mem_cons_self | with_reducible refine List.mem_cons_of_mem _ ?_)))⟩, List.forall_mem_cons.mpr ⟨⟨_, (by (repeat (first | with_reducible exact List.mem_cons_self | with_reducible refine List.mem_cons_of_mem _ ?_)))⟩, List.forall_mem_cons.mpr ⟨⟨_, (by (repeat (first | with_reducible exact List.mem_cons_self | with_reducible refine List.mem_cons_of_mem _ ?_)))⟩, fun _ h => nomatch h⟩⟩⟩⟩⟩⟩), fun p hp => .tail _ (hin p hp)⟩)
      rw [List.range_succ, List.map_append, List.map_singleton, ← List.append_assoc]
      refine (hi3.mono fun p hp => .tail _ hp).snoc (.head _) ?_
      have e5 := line_of (ns := xs) (i := i) (wd := wd) (by omega)
      rw [e5] at hI5
      exact hI5
    · clear F3 N3
      rintro c3 uu3 h2 tk4 ⟨i, hi1, hi2, hi3, hap3, hin⟩ F4 N4
      rw [range_done hi2 hi1] at hi3
      repeat' (first | (k_unfold; (try dsimp only)) | walk1 | (dsimp only; walk1) | (leave1; (try dsimp only)) | fail "no step")
      subst em
      refine hUt (for_end (⟨c3.rvs, c3.n, c3.led, om3⟩ : MS) (by assumption) (by assumption) ⟨(by (repeat (first | with_reducible exact List.mem_cons_self | with_reducible refine List.mem_cons_of_mem _ ?_))), trivial⟩ (SubL.of (by (repeat (refine List.forall_mem_cons.mpr (And.intro (by (repeat (first | exact List.mem_cons_self | refine List.mem_cons_of_mem _ ?_))) ?_))); first | exact List.forall_mem_nil _ | (intro p hp; (repeat (first | exact hp | refine List.mem_cons_of_mem _ ?_))))) (OffW.ne (NEs.cons (by k_ne) (NEs.cons (by k_ne) (NEs.cons (by k_ne) (NEs.cons (by k_ne) (hap3.at (by (repeat (first | with_reducible exact List.mem_cons_self | with_reducible refine List.mem_cons_of_mem _ ?_))))))))) ⟨.tail _ (.tail _ (.tail _ (.tail _ (hin _ m1)))), trivial⟩ (by kst_all) (by ksw_same) ⟨⟨_, dom3⟩, hin _ m1, hin _ m2, hin _ m3, fun d hd => hap3 d (.tail _ hd), hnx _ _ hi3⟩)
  · rintro c2 uu h1 tk3 ⟨⟨y3, hom'⟩, m1, m2, m3, hap, hP⟩ F2 N2
    have hR : RowsL c2.led c2.rvs LN := by
      rcases hP with ⟨e, _⟩ | ⟨e, _⟩ | ⟨_, h9⟩
      · cases e
      · cases e
      · rw [eL]; exact h9
    have hRn := hR.len
    have hap : AP [l9, K1 + 1 + 1, K1 + 1, K1] c2.led := fun d hd => hap d (.tail _ hd)
    have hL7 : LN.length ≤ 7 := hLl ▸ hk7
    clear hP m1 m2 m3 eL hLl hk3 lR1 eR1 eR2 eD0 eD1 eD2 hA0 hI hk7
    repeat' (first | (k_unfold; (try dsimp only)) | walk1 | (dsimp only; walk1) | (leave1; (try dsimp only)) | fail "no step")
    rename Fr _ L _ _ => F3
    rename News _ L _ _ => N3
    rename_i Fo _ lFo D5 _ lD5 _ _ _ _ _ oq dq
    rw [emn] at dq
    clear emn
    have hapF : AP [Fo, l9, K1 + 1 + 1, K1 + 1, K1] c2.led := hap.add (NEs.sub lFo.nes fun p hp => .tail _ (.tail _ (.tail _ (.tail _ hp))))
    obtain ⟨m1, -, F4⟩ := seat_fr [("found", .ref Fo), ("lines", .ref l9), ("order", .int (o : Int) u)] F3 (by kst_all)
    have N4 := kst_newsOf N3 (l' := (Fo, lst [] 0) :: (l9, lst c2.rvs c2.n) :: (K1 + 1 + 1, op) :: (K1 + 1, oq) :: (K1, ow) :: c2.led) (by (repeat (refine List.forall_mem_cons.mpr (And.intro (by (repeat (first | exact List.mem_cons_self | refine List.mem_cons_of_mem _ ?_))) ?_))); first | exact List.forall_mem_nil _ | (intro p hp; (repeat (first | exact hp | refine List.mem_cons_of_mem _ ?_))))
    clear F3 N3 hn hm hon hom hlen hlen' lD0 lD1 lD2 lD3 lD5
    refine Stop.mk (For_turns F4 ?_)
    repeat' (first | (k_unfold; (try dsimp only)) | walk1 | (dsimp only; walk1) | (leave1; (try dsimp only)) | fail "no step")
    refine Stop.mk (range_for (k := o + 1) rfl F4 N4 (by omega) (by omega) (fun h tk K hK => ?_))
    have hK := LtAll.of hK
    clear F4 N4
    refine for_stH (σ := MP) (fun c => (Fo, lst c.fvs c.nf) :: (l9, lst c2.rvs c2.n) :: (K1 + 1 + 1, c.op) :: (K1 + 1, oq) :: (K1, ow) :: c2.led) (fun _ => [("found", .ref Fo), ("lines", .ref l9)]) []
      (fun r c => ∃ i : Nat, i ≤ o + 1 ∧ r = (rangeItems 0 (o + 1)).drop i ∧ IntsAre c.fvs ((List.range i).map (minorN ns ms o)) ∧ ∃ y, c.op.data = .cell y) ⟨op, [], 0⟩ (by kst_all) ⟨0, Nat.zero_le _, rfl, .nil, _, dop⟩ ?_ ?_
    · rintro q r c3 uu3 v s1 ⟨i, hk1, hk2, hk3, y, hk4⟩ hq F2
      refine AllObj.cons fun o8 ho8 => AllObj.nil ?_
      intro N2 Qt hUt _
      obtain ⟨e1, rfl, e3⟩ := range_turn hk2
      obtain ⟨t4, rfl⟩ := hq
      simp only [List.cons_append, List.nil_append] at N2
      have hfl := hk3.length
      rw [List.length_map, List.length_range] at hfl
      obtain ⟨mm, em⟩ := the_base F2
      rw [em] at F2
      have hapK : AP [K, Fo, l9, K1 + 1 + 1, K1 + 1, K1] c2.led := hapF.add (NEs.sub hK.nes fun p hp => .tail _ (.tail _ (.tail _ (.tail _ (.tail _ hp)))))
      repeat' (first | (k_unfold; (try dsimp only)) | walk1 | (dsimp only; walk1) | (leave1; (try dsimp only)) | fail "no step")
      rename News _ L _ _ => N3
      rename Fr _ L _ _ => F3
      rename_i oi2 di2
      refine Stop.mk (LCg.ListComp_U (F₀ := F3) (by with_unfolding_all rfl) (by decide) (by rfl) (by decide) (by rfl) ?_)
      repeat' (first | (k_unfold; (try dsimp only)) | walk1 | (dsimp only; walk1) | (leave1; (try dsimp only)) | fail "no step")
      refine Stop.mk (LCg.CompSrc.ledger rfl F3 N3 (by (repeat (first | with_reducible exact List.mem_cons_self | with_reducible refine List.mem_cons_of_mem _ ?_))) (size_ok hRn (by omega)) (fun g => ?_))
      refine comp_stH (σ := List (Addr × Obj)) (fun led => (K, o8) :: (Fo, lst c3.fvs c3.nf) :: (l9, lst c2.rvs c2.n) :: (K1 + 1 + 1, oi2) :: (K1 + 1, oq) :: (K1, ow) :: led) (fun j ys led => RowsL led ys ((LN.take j).map fun q => q.take (mn - 1) ++ [q.getD (wd - 1 - i) 0]) ∧ AP [K, Fo, l9, K1 + 1 + 1, K1 + 1, K1] led ∧ ∀ p ∈ c2.led, p ∈ led) c2.led ⟨.nil, hapK, fun _ h => h⟩ ?_ ?_
      · rintro j ys led v I oI C oC D m₂ s2 Qt2 E' hUt2 hj ⟨hys, hap3, hin⟩ hv hC hx F4 N4 off ne3
        have hj' : j < LN.length := by simpa [hRn] using hj
        obtain ⟨r1, vs1, n1, g1, g2, g3⟩ := hR.get j hj'
        have hv' : c2.rvs[j]? = some v := by simpa using hv
        rw [g1] at hv'
        cases hv'
        have hqs := hLs _ (List.getElem_mem hj')
        obtain ⟨q, hq⟩ : ∃ q, LN[j] = q := ⟨_, rfl⟩
        rw [hq] at g3 hqs
        obtain ⟨hql, hqs⟩ := hqs
        have hgl := g3.length
        have hwi : (i : Int) + 2 ≤ (wd : Int) := Int.ofNat_le.mpr (Nat.le_trans (Nat.add_le_add_right (Nat.le_of_lt_succ e1) 2) ho6.2)
        have N5 : News h₀ L s2.heap ((I, oI) :: (C, oC) :: (D, LCg.lst ys) :: (r1, lst vs1 n1) :: (K, o8) :: (Fo, lst c3.fvs c3.nf) :: (l9, lst c2.rvs c2.n) :: (K1 + 1 + 1, oi2) :: (K1 + 1, oq) :: (K1, ow) :: led) :=
          kst_newsOf N4 (List.forall_mem_cons.mpr ⟨(by (repeat (first | with_reducible exact List.mem_cons_self | with_reducible refine List.mem_cons_of_mem _ ?_))), List.forall_mem_cons.mpr ⟨(by (repeat (first | with_reducible exact List.mem_cons_self | with_reducible refine List.mem_cons_of_mem _ ?_))), List.forall_mem_cons.mpr ⟨(by (repeat (first | with_reducible exact List.mem_cons_self | with_reducible refine List.mem_cons_of_mem _ ?_))), List.forall_mem_cons.mpr ⟨.tail _ (.tail _ (.tail _ (.tail _ (.tail _ (.tail _ (.tail _ (.tail _ (.tail _ (hin _ g2))))))))), fun p hp => .tail _ (.tail _ (.tail _ hp))⟩⟩⟩⟩)
        clear N4 hfl hj ho6 hRn hL7 hk1 hv
        repeat' (first | (k_unfold; (try dsimp only)) | walk1 | (dsimp only; walk1) | (leave1; (try dsimp only)) | fail "no step")
        rename News _ _ _ _ => N6
        rename Fr _ _ _ _ => F6
        rename IntsAre _ (_ ++ _) => hI5
        rename LtAll _ _ => lDD
        obtain ⟨DD, ws, eD, eW⟩ := the_list N6
        subst eD eW
        simp only [LCg.Off3] at off
        refine hUt2 (comp_end ((DD, listOf ws.toArray 0) :: led) F6 N6 (by (repeat (refine List.forall_mem_cons.mpr (And.intro (by (repeat (first | exact List.mem_cons_self | refine List.mem_cons_of_mem _ ?_))) ?_))); first | exact List.forall_mem_nil _ | (intro p hp; (repeat (first | exact hp | refine List.mem_cons_of_mem _ ?_)))) ⟨off.1, off.2.1, off.2.2.1, off.2.2.2.1, off.2.2.2.2.1, off.2.2.2.2.2.1, ⟨by k_ne, by k_ne, by k_ne⟩, off.2.2.2.2.2.2⟩ (.inr ⟨_, .tail _ (.tail _ (.head _)), rfl, _, rfl⟩) ⟨?_, AP.new hap3 lDD (List.forall_mem_cons.mpr ⟨⟨_, (by (repeat (first | with_reducible exact List.mem_cons_self | with_reducible refine List.mem_cons_of_mem _ ?_)))⟩, List.forall_mem_cons.mpr ⟨⟨_, (by (repeat (first | with_reducible exact List.mem_cons_self | with_reducible refine List.mem_cons_of_mem _ ?_)))⟩, List.forall_mem_cons.mpr ⟨⟨_, (by (repeat (first | with_reducible exact List.mem_cons_self | with_reducible refine List.mem_cons_of_mem _ ?_)))⟩, List.forall_mem_cons.mpr ⟨⟨_, (by (repeat (first | with_reducible exact List.mem_cons_self | with_reducible refine List.mem_cons_of_mem _ ?_)))⟩, List.forall_mem_cons.mpr ⟨⟨_, (by (repeat (first | with_reducible exact List.mem_cons_self | with_reducible refine List.mem_cons_of_mem _ ?_)))⟩, List.forall_mem_cons.mpr ⟨⟨_, (by (repeat (first | with_reducible exact List.mem_cons_self | with_reducible refine List.mem_cons_of_mem _ ?_)))⟩, fun _ h => nomatch h⟩⟩⟩⟩⟩⟩), fun p hp => .tail _ (hin p hp)⟩)
        rw [List.take_add_one, List.getElem?_eq_getElem hj', hq, List.map_append]
        refine (hys.mono fun p hp => .tail _ hp).snoc (.head _) ?_
        have e8 : ((mn : Int) - 1).toNat = mn - 1 := by omega
        have e9 := wd_i wd i
        rw [e8, e9] at hI5
        exact hI5
      · rintro ys led ⟨hys, hap3, hin⟩ D h9 tk9 F4 N4 off
        have hoD := nes_off1 off
        rw [List.take_of_length_le (by simp [hRn])] at hys
        obtain ⟨RWS, eR⟩ : ∃ RWS, (LN.map fun q => q.take (mn - 1) ++ [q.getD (wd - 1 - i) 0]) = RWS := ⟨_, rfl⟩
        have hRl : RWS.length ≤ 7 := by rw [← eR, List.length_map]; exact hL7
        have hRs : RowsSm 8 1000000 RWS := by
          rw [← eR]
          intro r9 hr9
          obtain ⟨q, hq, rfl⟩ := List.mem_map.mp hr9
          obtain ⟨g1, g2⟩ := hLs q hq
          refine ⟨by rw [List.length_append, List.length_take, g1, List.length_singleton]; omega, ?_⟩
          intro x hx
          rcases List.mem_append.mp hx with hx | hx
          · exact g2 x (List.mem_of_mem_take hx)
          · rw [List.mem_singleton.mp hx]
            exact g2.getD _
        have eM2 := eM i
        rw [eR] at hys eM2
        clear eR hLs hL7 hRn hmn2
        repeat' (first | (k_unfold; (try dsimp only)) | walk1 | (dsimp only; walk1) | (leave1; (try dsimp only)) | fail "no step")
        rename News _ L _ _ => N5
        rename Fr _ L _ _ => F5
        refine Stop.mk (CallOk.useI (det_ok w D RWS hRl hRs) B F5 N5 X T rfl (hdD hd (by decide)) (hdU hu (by decide)) ⟨ys, ⟨_, (N5 _ (.head _)).1, rfl, _, rfl⟩, RowsAt.of hys N5 (by (repeat (refine List.forall_mem_cons.mpr (And.intro (by (repeat (first | exact List.mem_cons_self | refine List.mem_cons_of_mem _ ?_))) ?_))); first | exact List.forall_mem_nil _ | (intro p hp; (repeat (first | exact hp | refine List.mem_cons_of_mem _ ?_))))⟩ ?_)
        intro t9 h9 tk9 F9 N9
        clear F5 N5
        try dsimp only
        repeat' (first | (k_unfold; (try dsimp only)) | walk1 | (dsimp only; walk1) | (leave1; (try dsimp only)) | fail "no step")
        refine Stop.mk (append_K F9 N9 (Upd.tail (by k_ne) (Upd.tail (by k_ne) (Upd.head (NEs.cons (by k_ne) (NEs.cons (by k_ne) (NEs.cons (by k_ne) (NEs.cons (by k_ne) (hap3.at (by (repeat (first | with_reducible exact List.mem_cons_self | with_reducible refine List.mem_cons_of_mem _ ?_))))))))))) ?_ (size_ok hfl (Nat.le_trans (Nat.le_of_lt_succ e1) (Nat.le_trans ho6.1 (by decide)))))
        intro h5 F5 N5
        clear N9 F9
        simp only [List.push_toArray] at N5
        try dsimp only
        repeat' (first | (k_unfold; (try dsimp only)) | walk1 | (dsimp only; walk1) | (leave1; (try dsimp only)) | fail "no step")
        subst em
        refine hUt (for_end (⟨oi2, c3.fvs ++ [.int (detN RWS) t9], c3.nf + 1⟩ : MP) F5 N5 ⟨.tail _ (.head _), trivial⟩ (SubL.of ?_) (OffW.ne (NEs.cons (by k_ne) (NEs.cons (by k_ne) (NEs.cons (by k_ne) (NEs.cons (by k_ne) (NEs.cons (by k_ne) (hapK.at (by (repeat (first | with_reducible exact List.mem_cons_self | with_reducible refine List.mem_cons_of_mem _ ?_)))))))))) trivial (by kst_all) (by ksw_same) ⟨i + 1, by omega, e3, ?_, _, di2⟩)
        · exact List.forall_mem_cons.mpr ⟨(by (repeat (first | with_reducible exact List.mem_cons_self | with_reducible refine List.mem_cons_of_mem _ ?_))), List.forall_mem_cons.mpr ⟨(by (repeat (first | with_reducible exact List.mem_cons_self | with_reducible refine List.mem_cons_of_mem _ ?_))), List.forall_mem_cons.mpr ⟨(by (repeat (first | with_reducible exact List.mem_cons_self | with_reducible refine List.mem_cons_of_mem _ ?_))), List.forall_mem_cons.mpr ⟨(by (repeat (first | with_reducible exact List.mem_cons_self | with_reducible refine List.mem_cons_of_mem _ ?_))), List.forall_mem_cons.mpr ⟨(by (repeat (first | with_reducible exact List.mem_cons_self | with_reducible refine List.mem_cons_of_mem _ ?_))), fun p hp => .tail _ (.tail _ (.tail _ (.tail _ (.tail _ (.tail _ (.tail _ (hin p hp)))))))⟩⟩⟩⟩⟩
        · rw [List.range_succ, List.map_append, List.map_singleton, eM2]
          exact ints_snoc hk3 _ _
    · rintro c3 uu h1 tk3 ⟨i, hk1, hk2, hk3, y, hk4⟩ F2 N2
      rw [range_done hk2 hk1] at hk3
      clear hk1 hk2 hK hapF hap hRn hR hLs eM
      repeat' (first | (k_unfold; (try dsimp only)) | walk1 | (dsimp only; walk1) | (leave1; (try dsimp only)) | fail "no step")
      refine Stop.mk ?_
      rename Fr _ L _ _ => F5
      rename News _ L _ _ => N5
      refine ksw_whileH (σ := LI) (fun c1 => [(Fo, lst c1.vs c1.n)]) (fun _ => [("found", .ref Fo)]) (fun c1 => IntsAre c1.vs c1.ns)
        [] (fun c1 => c1.ns.length ≤ o + 1 ∧ trimN c1.ns = minorsN ns ms o) (fun c1 => c1.ns.length) ⟨c3.fvs, _, _⟩ F5 (kst_newsOf N5 (by (repeat (refine List.forall_mem_cons.mpr (And.intro (by (repeat (first | exact List.mem_cons_self | refine List.mem_cons_of_mem _ ?_))) ?_))); first | exact List.forall_mem_nil _ | (intro p hp; (repeat (first | exact hp | refine List.mem_cons_of_mem _ ?_))))) hk3 (by kst_all) ⟨by simp, rfl⟩ ?_
      clear F5 N5
      intro c1 ku1 s1 Qt Qf hUt _ hUf hc1 kP1 kF1 kN1
      obtain ⟨g1, g2⟩ := kP1
      have hc1l := hc1.length
      by_cases hz : c1.ns = []
      · repeat' (first | (k_unfold; (try dsimp only)) | walk1 | (dsimp only; walk1) | (leave1; (try dsimp only)) | fail "no step")
        refine hUf ?_
        repeat' (first | (k_unfold; (try dsimp only)) | walk1 | (dsimp only; walk1) | (leave1; (try dsimp only)) | fail "no step")
        rename News _ _ _ _ => N6
        refine hQb (by assumption) ?_
        have e2 : minorsN ns ms o = c1.ns := by rw [← g2, hz]; rfl
        rw [e2]
        exact RetInts.of N6 (.tail _ (.head _)) hc1
      · have hz1 := List.length_pos_iff.mpr hz
        repeat' (first | (k_unfold; (try dsimp only)) | walk1 | (dsimp only; walk1) | (leave1; (try dsimp only)) | fail "no step")
        · rename News _ _ _ _ => N6
          have e9 : c1.ns.getD (-1 + (c1.ns.length : Int)).toNat 0 = 0 := by assumption
          refine hUt (ksw_end (⟨c1.vs.dropLast, _, c1.ns.dropLast⟩ : LI) (by assumption) N6 (by (repeat (refine List.forall_mem_cons.mpr (And.intro (by (repeat (first | exact List.mem_cons_self | refine List.mem_cons_of_mem _ ?_))) ?_))); first | exact List.forall_mem_nil _ | (intro p hp; (repeat (first | exact hp | refine List.mem_cons_of_mem _ ?_)))) (by assumption) (by kst_all) (by ksw_same) ⟨by simp only [List.length_dropLast]; omega, by rw [trim_drop hz e9]; exact g2⟩ (by simp only [List.length_dropLast]; omega))
        · refine hUf ?_
          repeat' (first | (k_unfold; (try dsimp only)) | walk1 | (dsimp only; walk1) | (leave1; (try dsimp only)) | fail "no step")
          rename News _ _ _ _ => N6
          have e9 : c1.ns.getD (-1 + (c1.ns.length : Int)).toNat 0 ≠ 0 := by assumption
          refine hQb (by assumption) ?_
          have e2 : minorsN ns ms o = c1.ns := by rw [← g2]; exact trim_keep hz e9
          rw [e2]
          exact RetInts.of N6 (.tail _ (.head _)) hc1
end
end Mine
end

section
open PySem PySem.W PySem.Calls PySem.Spec PyProof.Rows
namespace Mine
set_option maxRecDepth 100000
set_option maxHeartbeats 4000000
theorem fill_frag_W14 : (fun (_ : OpenLaw) (_ : Params → Frag) => True) PySem.Challenge.rw_pf0034_01 hd.heap_39 := by k_fill; trivial
/-! _law_row_right -/
theorem kms_take2 (x y : Value) (r : List Value) : kms_pick (x :: y :: r).toArray.toList none (some 2) = [x, y] := by
  unfold kms_pick kms_lo kms_hi
  simp
theorem minorsN_len (a b : List Int) (o : Nat) : (minorsN a b o).length ≤ o + 1 := by
  unfold minorsN
  have := trimN_len ((List.range (o + 1)).map (minorN a b o))
  rw [List.length_map, List.length_range] at this
  exact this
theorem minors_int (w : World) (a b : Addr) (k : Int) (o : Nat) (u : Tok) (ns ms : List Int) (hk : k = (o : Int)) (hn : ns.length ≤ 4) (hm : ms.length ≤ 4) (hon : o + 2 ≤ ns.length) (hom : o + 2 ≤ ms.length) (sn : Sm 1000000 ns) (sm : Sm 1000000 ms) :
    CallOk w 195 [.ref a, .ref b, .int k u] 19 (fun h => IntsAt a ns h ∧ IntsAt b ms h) (RetInts (minorsN ns ms o)) := by
  subst hk
  exact minors_ok w a b o u ns ms hn hm hon hom sn sm
section
variable {prog : Program} {w : World} {A : Around} {E : Value → Shared → Prop} {s : Shared}
theorem len_any {l : Addr} {vs : List Value} {n : Nat} {Q : Value → Shared → Prop} (hl : s.heap.IsList l vs.toArray) (hi : vs.length = n) (hfit : n < 2 ^ 62)
    (h : Q (.int (n : Nat) (s.toks + 1)) { s with toks := s.toks + 1 + 1 }) : wpAny (model prog w) A (call (.builtin "len") [.ref l]) Q E s := by
  have e : vs.toArray.size = n := by simp [hi]
  refine Calls.call_len_list hl (by omega) ?_
  rw [e]
  exact h
theorem item_last {value slice : Expr} {l : Addr} {rvs : List Value} {rows : List (List Int)} {u : Tok} {Q : Value → Shared → Prop} (hl : s.heap.IsList l rvs.toArray) (hr : RowsAt s.heap rvs rows) (hne : 0 < rows.length)
    (h : ∀ r vs, s.heap.IsList r vs.toArray → rvs[rows.length - 1]? = some (.ref r) → IntsAre vs (rows.getLastD []) → Q (.ref r) s)
    (hs : subscripted slice false (.ref l) (.int (-1) u) = operate [.ref l, .int (-1) u] (getItem (.ref l) (.int (-1) u)) := by with_unfolding_all rfl) :
    wpAny (model prog w) A (subscriptTail value slice (.ref l) (.int (-1) u)) Q E s := by
  have hlen := hr.len
  have hsz : rvs.toArray.size = rows.length := by simp [hlen]
  obtain ⟨r, vs, h1, h2, h3⟩ := hr.get (rows.length - 1) (by omega)
  have e : rows[rows.length - 1]'(by omega) = rows.getLastD [] := by
    rw [List.getLastD_eq_getLast?, List.getLast?_eq_getElem?, List.getElem?_eq_getElem (by omega)]
    rfl
  rw [e] at h3
  refine subscriptTail_builtinR hl.typeIs slot_list_getitem.lookup (wpAny_getItem_list_neg (x := .ref r) (Q := fun v s' => v = .ref r ∧ Q v s') hl (by decide) (by rw [hsz]; omega) (by decide) ?_ ⟨rfl, h r vs h2 h1 h3⟩) hs
  rw [hsz]
  have e2 : (-1 + (rows.length : Int)).toNat = rows.length - 1 := by omega
  rw [e2]
  simpa using h1
end
/-- behind the swap -/
def RQ (h₀ : Heap) (s : Shared) (L : Addr) (M : Str → Option Value) (cells : List (Addr × Obj)) (fl : Flow) (s' : Shared) : Prop := fl = .next ∧ ∃ h tk, s' = { s with heap := h, toks := tk } ∧ Fr h₀ L h M ∧ News h₀ L h cells
theorem map_same {m0 : Str → Option Value} {x y : Str} {u v : Value} (h1 : m0 x = some u) (h2 : m0 y = some v) : m0 = fun z => if z = x then some u else if z = y then some v else m0 z := by
  funext z
  by_cases e : z = x
  · rw [if_pos e, e, h1]
  · rw [if_neg e]
    by_cases e2 : z = y
    · rw [if_pos e2, e2, h2]
    · rw [if_neg e2]
theorem the_map {h₀ h : Heap} {L : Addr} {m : Str → Option Value} (_ : Fr h₀ L h m) : ∃ m' : Str → Option Value, m = m' := ⟨m, rfl⟩
section
local macro_rules | `(tactic| walk_at "exec If") => `(tactic| ((with_reducible show wpAny _ _ (exec (Stmt.If (Expr.Compare _ [CmpOp.Lt] _ _) _ _ _) _) _ _ _); (fail_if_success (with_reducible show wpAny _ _ _ (RQ _ _ _ _ _) _ _)); refine Stop.out ?_))
local macro_rules | `(tactic| walk_at "subscriptTail Name UnaryOp ref int") => `(tactic| ((refine item_last (by is_list) (RowsAt.keeps (by assumption) (Fr.keep (by assumption))) (by omega) ?_); intro r9 v9 hl9 hv9 hi9; have hn9 := hi9.length))
local macro_rules | `(tactic| walk_at "call builtin:len") => `(tactic| ((refine len_any (by is_list) (by assumption) ?_ ?_); (first | omega | exact Nat.lt_of_le_of_lt ((by assumption : ∀ i : Nat, (List.getD _ i ([] : List Int)).length ≤ 8) _) (by decide)); (try dsimp only)))
local macro_rules | `(tactic| walk_at "eval ListComp") => `(tactic| refine Stop.out ?_)
local macro_rules | `(tactic| walk_at "CompSrc") => `(tactic| refine Stop.out ?_)
local macro_rules | `(tactic| walk_at "subscriptTail Name Name ref int") => `(tactic| ((refine item_row (by is_list) (RowsAt.keeps (by assumption) (Fr.keep (by assumption))) (by omega) (by omega) ?_); intro r9 v9 hl9 hv9 hi9; have hn9 := hi9.length))
local macro_rules | `(tactic| walk_at "subscriptTail Name BinOp ref int") => `(tactic| ((refine item_row (by is_list) (RowsAt.keeps (by assumption) (Fr.keep (by assumption))) (by omega) (by omega) ?_); intro r9 v9 hl9 hv9 hi9; have hn9 := hi9.length))
local macro_rules | `(tactic| walk_at "subscriptTail Name Slice ref ref") => `(tactic| ((refine' kms_slice_lit ?kF ?kN ?kl ?kp ?kq ?ke ?_ ?ks ?kt ?kz; (case kF => k_asm); (case kN => k_asm); (case kl => is_list); (case kp => kmk_part); (case kq => kmk_part); (case ke => exact kms_take2 _ _ _); (case ks => with_unfolding_all rfl); (case kt => kmk_pure); (case kz => (simp only [List.size_toArray, List.length_cons, sizeLine_eq] at *; omega))); intro D' h' F' N' l1; (try k_lt l1); (try k_sweep); (try dsimp only)))
local macro_rules | `(tactic| walk_at "CompSrcT") => `(tactic| refine Stop.out ?_)
local macro_rules | `(tactic| walk_at "compareOp NotEq ref ref") => `(tactic| refine Stop.out ?_)
local macro_rules | `(tactic| walk_at "exec For Name Call cons nil") => `(tactic| refine Stop.out ?_)
local macro_rules | `(tactic| walk_at "call type:range") => `(tactic| refine Stop.out ?_)
local macro_rules | `(tactic| walk_at "call ref") => `(tactic| refine Stop.out ?_)
theorem row_right_gen (w : World) (pa pb a b R : Addr) (ns ms : List Int) (rows : List (List Int)) (hpp : (pa = a ∧ pb = b ∧ ms.length ≤ ns.length) ∨ (pa = b ∧ pb = a ∧ ms.length < ns.length)) (hn : ns.length ≤ 4) (hm2 : 2 ≤ ms.length) (sn : Sm 1000000 ns) (sm : Sm 1000000 ms) (ok : RowOk ns ms rows) (hrl : rows.length ≤ 8) (hall : ∀ i : Nat, (rows.getD i []).length ≤ 8) :
    CallOk w 210 [.ref pa, .ref pb, .ref R] 30 (fun h => IntsAt a ns h ∧ IntsAt b ms h ∧ RowAt R rows h) (RetBool true) := by
  refine enterCH [("a", .ref pa), ("b", .ref pb), ("row", .ref R)] (by k_is) (by k_is) (fun _ => BindsTo.of_eq rfl) (kindsX rfl) (by decide +kernel) rfl rfl rfl ?_
  intro mean mg mb dp un gd h₀ s L Qb cells base outer hQb F N Y X T B hd hu ⟨⟨vs, hl, hi⟩, ⟨us, hl', hi'⟩, ⟨rvs, hlr, hir⟩⟩
  have hlen := hi.length
  have hlen' := hi'.length
  have hrn := hir.len
  obtain ⟨rr, rfl⟩ := ok.two
  have hir2 := hir
  obtain ⟨r0, v0, rvs1, rfl, hl0, hi0, hir1⟩ := hir.inv
  obtain ⟨r1, v1, rvs2, rfl, hl1, hi1, hir3⟩ := hir1.inv
  clear hir hir1
  have hrn2 := hir3.len
  k_cells Y
  generalize hK1 : L + 1 = K1 at *
  rename_i oR dR
  have hge : ms.length ≤ ns.length := by omega
  repeat' (first | (k_unfold; (try dsimp only)) | walk1 | (dsimp only; walk1) | (leave1; (try dsimp only)) | fail "no step")
  obtain ⟨m00, -, F⟩ := seat_fr [("a", .ref pa), ("b", .ref pb)] F (by kst_all)
  obtain ⟨m0, em0⟩ := the_map F
  refine Stop.mk (wpAny_mono (Q := RQ h₀ s L (fun z => if z = "a" then some (.ref a) else if z = "b" then some (.ref b) else m0 z) [(K1, oR)]) ?_ (fun fl s₁ hq => ?_) (fun _ _ e => e))
  · rcases hpp with ⟨rfl, rfl, h9⟩ | ⟨rfl, rfl, h9⟩
    · repeat' (first | (k_unfold; (try dsimp only)) | walk1 | (dsimp only; walk1) | (leave1; (try dsimp only)) | fail "no step")
      rename News _ _ _ _ => N1
      rename Fr _ _ _ _ => F1
      exact ⟨rfl, _, _, rfl, Fr.as (em0 ▸ F1) (map_same (by rw [← em0]; with_unfolding_all rfl) (by rw [← em0]; with_unfolding_all rfl)), kst_newsOf N1 (by kst_in)⟩
    · repeat' (first | (k_unfold; (try dsimp only)) | walk1 | (dsimp only; walk1) | (leave1; (try dsimp only)) | fail "no step")
      rename News _ _ _ _ => N1
      rename Fr _ _ _ _ => F1
      exact ⟨rfl, _, _, rfl, em0 ▸ F1, kst_newsOf N1 (by kst_in)⟩
  obtain ⟨rfl, h10, tk10, rfl, F10, N10⟩ := hq
  subst em0
  clear F N
  repeat' (first | (k_unfold; (try dsimp only)) | walk1 | (dsimp only; walk1) | (leave1; (try dsimp only)) | fail "no step")
  rename News _ _ _ _ => N1
  rename Fr _ _ _ _ => F1
  refine Stop.mk (rows_ne (ns := [ns, ms]) (ms := [ns, ms]) (by is_list) (by is_list) (.cons (hl0.at fun o e => F1.keep _ o e) hi0 (.cons (hl1.at fun o e => F1.keep _ o e) hi1 .nil)) (.cons (hl.at fun o e => F1.keep _ o e) hi (.cons (hl'.at fun o e => F1.keep _ o e) hi' .nil)) (hdV hu (by decide)) ?_)
  rw [decide_eq_true rfl]
  have hrl3 : (ns :: ms :: rr).length = rr.length + 2 := rfl
  obtain ⟨rows, erows⟩ : ∃ rows, ns :: ms :: rr = rows := ⟨_, rfl⟩
  obtain ⟨RV, eRV⟩ : ∃ RV, Value.ref r0 :: Value.ref r1 :: rvs2 = RV := ⟨_, rfl⟩
  rw [erows] at ok hrl hrn hir2 hrl3 hall
  rw [eRV] at hlr hrn hir2
  repeat' (first | (k_unfold; (try dsimp only)) | walk1 | (dsimp only; walk1) | (leave1; (try dsimp only)) | fail "no step")
  refine Stop.mk ?_
  refine LCt.ListComp_T (F₀ := F1) (by with_unfolding_all rfl) (by decide) (by rfl) (by decide) (by rfl) ?_
  repeat' (first | (k_unfold; (try dsimp only)) | walk1 | (dsimp only; walk1) | (leave1; (try dsimp only)) | fail "no step")
  refine Stop.mk (CompSrcT_two (k := rr.length) rfl F1 N1 (by omega) (by omega) (by omega) (by split <;> omega) (by omega) (fun g tk8 => compT_noneH ?_ ?_))
  · rintro i v I oI C oC D m₂ s7 Q7 E' hU7 hi9 ⟨t7, rfl⟩ hC hx F2 N2 off ne
    simp only [LCg.Off3] at off
    repeat' (first | (k_unfold; (try dsimp only)) | walk1 | (dsimp only; walk1) | (leave1; (try dsimp only)) | fail "no step")
    · have h7 := ok.dec (2 + i) (by omega) (by omega)
      have e1 : ((2 : Int) + (i : Int)).toNat = 2 + i := by omega
      have e2 : ((2 : Int) + (i : Int) - 1).toNat = 2 + i - 1 := by omega
      have hle : ((rows.getD ((2 : Int) + (i : Int) - 1).toNat []).length : Int) ≤ ((rows.getD ((2 : Int) + (i : Int)).toNat []).length : Int) := by assumption
      rw [e1, e2] at hle
      omega
    · rename Fr _ _ _ _ => F9
      rename News _ _ _ _ => N9
      exact hU7 (compT_no F9 N9 (by kst_in) off trivial)
  · rintro D9 h9 tk9 F3 N3 off3
    repeat' (first | (k_unfold; (try dsimp only)) | walk1 | (dsimp only; walk1) | (leave1; (try dsimp only)) | fail "no step")
    refine Stop.mk (ke_ne_ints (xs := []) (ys := []) (by is_list) (by is_list) .nil .nil (hdV hu (by decide)) ?_)
    repeat' (first | (k_unfold; (try dsimp only)) | walk1 | (dsimp only; walk1) | (leave1; (try dsimp only)) | fail "no step")
    rename Fr _ L _ _ => F5
    rename News _ L _ _ => N5
    refine Stop.mk ?_
    refine For_turns F5 ?_
    repeat' (first | (k_unfold; (try dsimp only)) | walk1 | (dsimp only; walk1) | (leave1; (try dsimp only)) | fail "no step")
    refine Stop.mk ?_
    refine range_two (k := rr.length) rfl F5 (kst_newsOf N5 (l' := [(K1, oR)]) (by kst_in)) (by omega) (by omega) (by omega) (fun h tk I hI => ?_)
    have hI1 : @LT.lt Nat _ (K1) I := hI _ (.head _)
    refine for_stH (σ := Unit) (fun _ => [(K1, oR)]) (fun _ => []) ["at", "due"] (fun q _ => ∃ i : Nat, i ≤ rr.length ∧ q = (rangeItems 2 rr.length).drop i) () (by kst_all) ⟨0, Nat.zero_le _, rfl⟩ ?_ ?_
    · clear F5 N5
      rintro q r3 _ uu v s1 ⟨i, hj1, hj2⟩ hq F2
      refine AllObj.cons fun o8 ho8 => AllObj.nil ?_
      intro N2 Qt hUt hUr
      obtain ⟨e1, rfl, e3⟩ := range_turn hj2
      obtain ⟨t4, rfl⟩ := hq
      simp only [List.cons_append, List.nil_append] at N2
      repeat' (first | (k_unfold; (try dsimp only)) | walk1 | (dsimp only; walk1) | (leave1; (try dsimp only)) | fail "no step")
      have h7 := ok.long (2 + i) (by omega) (by omega)
      have h8 := ok.due (2 + i) (by omega) (by omega)
      have e2 : ((2 : Int) + (i : Int) - 1).toNat = 2 + i - 1 := by omega
      have e4 : ((2 : Int) + (i : Int)).toNat = 2 + i := by omega
      obtain ⟨M, eM⟩ : ∃ M, minorsN ns ms ((rows.getD (2 + i - 1) []).length - 2) = M := ⟨_, rfl⟩
      rename Fr _ L _ _ => F3
      rename News _ L _ _ => N3
      refine Stop.mk (CallOk.useL (minors_int w a b _ ((rows.getD (2 + i - 1) []).length - 2) _ ns ms (by rw [e2]; omega) hn (by omega) (by omega) (by omega) sn sm) B F3 N3 X T rfl (hdD hd (by decide)) (hdU hu (by decide)) ⟨⟨vs, hl.at fun o e => F3.keep _ o e, hi⟩, ⟨us, hl'.at fun o e => F3.keep _ o e, hi'⟩⟩ ?_)
      rw [eM] at h8 ⊢
      intro rD vD nD h9 tk9 F9 N9 hiD hrD hnD
      have hvD := hiD.length
      have hMl : M.length ≤ 8 := by rw [← eM]; exact Nat.le_trans (minorsN_len _ _ _) (by omega)
      clear F3 N3
      repeat' (first | (k_unfold; (try dsimp only)) | walk1 | (dsimp only; walk1) | (leave1; (try dsimp only)) | fail "no step")
      refine Stop.mk (ke_ne_ints (by is_list) (by is_list) (by assumption) hiD (hdV hu (by decide)) ?_)
      by_cases hc : rows.getD ((2 : Int) + (i : Int)).toNat [] = M
      · rw [decide_eq_true hc]
        repeat' (first | (k_unfold; (try dsimp only)) | walk1 | (dsimp only; walk1) | (leave1; (try dsimp only)) | fail "no step")
        rename Fr _ L _ _ => F5
        rename News _ L _ _ => N5
        refine hUt <| for_end () F5 N5 ⟨by simp, trivial⟩ (SubL.of (by simp)) (OffW.ne ?_) trivial (by kst_all) (by ksw_same) ⟨i + 1, by omega, e3⟩
        exact List.forall_mem_cons.mpr ⟨Nat.ne_of_lt hI1, List.forall_mem_nil _⟩
      · rw [decide_eq_false hc]
        have hneg : rows.getD ((2 : Int) + (i : Int)).toNat [] = negN M := by
          rw [e4] at hc ⊢
          exact h8.resolve_left hc
        obtain ⟨r2, v2, g1, g2, g3⟩ := hir2.get (2 + i) (by omega)
        have g4 : rows[2 + i]'(by omega) = negN M := by
          rw [e4] at hneg
          rw [← hneg, List.getD_eq_getElem?_getD, List.getElem?_eq_getElem (by omega)]
          rfl
        rw [g4] at g3
        repeat' (first | (k_unfold; (try dsimp only)) | walk1 | (dsimp only; walk1) | (leave1; (try dsimp only)) | fail "no step")
        rename Fr _ L _ _ => F5
        rename News _ L _ _ => N5
        rename_i hv5 _ _
        rw [e4, g1] at hv5
        cases hv5
        refine Stop.mk ?_
        refine LCg.ListComp_U (F₀ := F5) (by with_unfolding_all rfl) (by decide) (by rfl) (by decide) (by rfl) ?_
        repeat' (first | (k_unfold; (try dsimp only)) | walk1 | (dsimp only; walk1) | (leave1; (try dsimp only)) | fail "no step")
        refine Stop.mk (LCg.CompSrc.ledger rfl F5 N5 (.head _) (by simp only [List.size_toArray, sizeLine_eq]; omega) (fun g => ?_))
        refine comp_stH (σ := Unit) (fun _ => [(rD, lst vD nD), (I, o8), (K1, oR)]) (fun j ys _ => IntsAre ys ((M.take j).map fun a => -a)) () .nil ?_ ?_
        · rintro j ys _ v Ij oI C oC D m₂ s2 Qt2 E' hUt2 hj hys hv hC hx F6 N6 off ne3
          have hv2 : vD[j]? = some v := by simpa using hv
          obtain ⟨t5, rfl⟩ := hiD.int_at j v hv2
          have hj' : j < M.length := by
            have := (List.getElem?_eq_some_iff.mp hv2).1
            omega
          repeat' (first | (k_unfold; (try dsimp only)) | walk1 | (dsimp only; walk1) | (leave1; (try dsimp only)) | fail "no step")
          refine hUt2 (comp_end () F6 N6 (fun p hp => hp) off (.inr ⟨_, .head _, rfl, _, rfl⟩) ?_)
          rw [List.take_add_one, List.getElem?_eq_getElem hj', List.map_append]
          have e6 : M.getD j 0 = M[j] := by rw [List.getD_eq_getElem?_getD, List.getElem?_eq_getElem hj']; rfl
          rw [e6]
          exact ints_snoc hys _ _
        · rintro ys _ hys D h9 tk9 F6 N6 off
          have e7 : (M.take vD.toArray.size).map (fun a => -a) = negN M := by
            rw [List.take_of_length_le (by simp [hvD])]
            rfl
          rw [e7] at hys
          repeat' (first | (k_unfold; (try dsimp only)) | walk1 | (dsimp only; walk1) | (leave1; (try dsimp only)) | fail "no step")
          rename Fr _ L _ _ => F8
          refine Stop.mk (ke_ne_ints (g2.at fun o e => F8.keep _ o e) (by is_list) g3 hys (hdV hu (by decide)) ?_)
          rw [decide_eq_true rfl]
          repeat' (first | (k_unfold; (try dsimp only)) | walk1 | (dsimp only; walk1) | (leave1; (try dsimp only)) | fail "no step")
          rename Fr _ L _ _ => F7
          rename News _ L _ _ => N7
          refine hUt <| for_end () F7 N7 ⟨by simp, trivial⟩ (SubL.of (by simp)) (OffW.ne ?_) trivial (by kst_all) (by ksw_same) ⟨i + 1, by omega, e3⟩
          exact List.forall_mem_cons.mpr ⟨Nat.ne_of_lt hI1, List.forall_mem_nil _⟩
    · clear F5 N5
      rintro _ uu h1 tk3 ⟨i, hj1, hj2⟩ F2 N2
      clear hj1 hj2 hI
      repeat' (first | (k_unfold; (try dsimp only)) | walk1 | (dsimp only; walk1) | (leave1; (try dsimp only)) | fail "no step")
      rename Fr _ L _ _ => F5
      rename News _ L _ _ => N5
      refine Stop.mk ?_
      refine For_turns F5 ?_
      have hl8 := ok.last.1
      have hl9 := ok.last.2.1
      repeat' (first | (k_unfold; (try dsimp only)) | walk1 | (dsimp only; walk1) | (leave1; (try dsimp only)) | fail "no step")
      refine Stop.mk (range_for (k := (rows.getLastD []).length - 1) rfl F5 N5 (by omega) (by omega) (fun h tk J hJ => ?_))
      have hJ1 : @LT.lt Nat _ (K1) J := hJ _ (.head _)
      refine for_stH (σ := Unit) (fun _ => [(K1, oR)]) (fun _ => []) ["order"] (fun q _ => ∃ i : Nat, i ≤ (rows.getLastD []).length - 1 ∧ q = (rangeItems 0 ((rows.getLastD []).length - 1)).drop i) () (by kst_all) ⟨0, Nat.zero_le _, rfl⟩ ?_ ?_
      · clear F5 N5
        rintro q r3 _ uu v s1 ⟨i, hj1, hj2⟩ hq F2
        refine AllObj.cons fun o8 ho8 => AllObj.nil ?_
        intro N2 Qt hUt hUr
        obtain ⟨e1, rfl, e3⟩ := range_turn hj2
        obtain ⟨t4, rfl⟩ := hq
        simp only [List.cons_append, List.nil_append] at N2
        have hM := ok.last.2.2 i (by omega)
        repeat' (first | (k_unfold; (try dsimp only)) | walk1 | (dsimp only; walk1) | (leave1; (try dsimp only)) | fail "no step")
        rename Fr _ L _ _ => F3
        rename News _ L _ _ => N3
        refine Stop.mk (CallOk.useL (minors_int w a b _ i _ ns ms (by omega) hn (by omega) (by omega) (by omega) sn sm) B F3 N3 X T rfl (hdD hd (by decide)) (hdU hu (by decide)) ⟨⟨vs, hl.at fun o e => F3.keep _ o e, hi⟩, ⟨us, hl'.at fun o e => F3.keep _ o e, hi'⟩⟩ ?_)
        rw [hM]
        intro rD vD nD h9 tk9 F9 N9 hiD hrD hnD
        clear F3 N3
        repeat' (first | (k_unfold; (try dsimp only)) | walk1 | (dsimp only; walk1) | (leave1; (try dsimp only)) | fail "no step")
        refine Stop.mk (ke_ne_ints (by is_list) (by is_list) (ys := []) hiD .nil (hdV hu (by decide)) ?_)
        rw [decide_eq_true rfl]
        repeat' (first | (k_unfold; (try dsimp only)) | walk1 | (dsimp only; walk1) | (leave1; (try dsimp only)) | fail "no step")
        rename Fr _ L _ _ => F7
        rename News _ L _ _ => N7
        refine hUt <| for_end () F7 N7 ⟨by simp, trivial⟩ (SubL.of (by simp)) (OffW.ne ?_) trivial (by kst_all) (by ksw_same) ⟨i + 1, by omega, e3⟩
        exact List.forall_mem_cons.mpr ⟨Nat.ne_of_lt hJ1, List.forall_mem_nil _⟩
      · clear F5 N5
        rintro _ uu h1 tk3 ⟨i, hj1, hj2⟩ F2 N2
        clear hj1 hj2 hJ
        repeat' (first | (k_unfold; (try dsimp only)) | walk1 | (dsimp only; walk1) | (leave1; (try dsimp only)) | fail "no step")
        exact hQb F2 rfl
end
end Mine
end

section
open PySem PySem.W PySem.Calls PySem.Spec PyProof.Rows
namespace Mine
set_option maxRecDepth 100000
set_option maxHeartbeats 4000000
theorem fill_frag_W15 : (fun (_ : OpenLaw) (_ : Params → Frag) => True) PySem.Challenge.rw_pf0034_01 hd.heap_39 := by k_fill; trivial
/-! the law -/
/-- the shared factor, drawn or 1 -/
def ShQ (h₀ : Heap) (s : Shared) (L Bx qA : Addr) (m : Str → Option Value) (cells : List (Addr × Obj)) (v : Value) (s₁ : Shared) : Prop :=
  ∃ Sa sv sn S h tk oB oQ, v = .ref Sa ∧ s₁ = { s with heap := h, toks := tk } ∧ Nz S ∧ S.length ≤ 2 ∧ Sm 2 S ∧ IntsAre sv S ∧ IsBox qA oB oQ ∧ NEs Sa ((Bx, oB) :: (qA, oQ) :: cells) ∧
    Fr h₀ L h m ∧ News h₀ L h ((Sa, lst sv sn) :: (Bx, oB) :: (qA, oQ) :: cells)
theorem CallOk.pre {w : World} {f : Addr} {args : List Value} {dep : Nat} {pre pre' : Heap → Prop} {post : Heap → Value → Heap → Prop} (C : CallOk w f args dep pre post) (h : ∀ g, pre' g → pre g) : CallOk w f args dep pre' post := by
  intro mean mg mb dp un gd outer base s Q E X T hd hu B hp hQ
  exact C mean mg mb dp un gd outer base s Q E X T hd hu B (h _ hp) hQ
theorem right_any (w : World) (a b R : Addr) {S A B : List Int} (dr : Drawn S A B) :
    CallOk w 210 [.ref a, .ref b, .ref R] 30 (fun h => IntsAt a A h ∧ IntsAt b B h ∧ RowAt R (subresN A B) h) (RetBool true) := by
  have hr := dr.rows
  have hr1 : ∀ i : Nat, ((subresN A B).getD i []).length ≤ 8 := fun i => Nat.le_trans (hr.1 i) (by decide)
  have lA := dr.lA
  have lB := dr.lB
  by_cases hl : A.length < B.length
  · refine (row_right_gen w a b b a R B A (subresN A B) (.inr ⟨rfl, rfl, hl⟩) lB.2 lA.1 (dr.sB.mono (by decide)) (dr.sA.mono (by decide)) (dr.row2 hl) (Nat.le_trans hr.2 (by decide)) hr1).pre ?_
    rintro g ⟨h1, h2, h3⟩
    exact ⟨h2, h1, h3⟩
  · exact row_right_gen w a b a b R A B (subresN A B) (.inl ⟨rfl, rfl, by omega⟩) lA.2 lB.1 (dr.sA.mono (by decide)) (dr.sB.mono (by decide)) (dr.row1 (by omega)) (Nat.le_trans hr.2 (by decide)) hr1
theorem isList_of {h₀ h : Heap} {L a : Addr} {vs : List Value} {n : Nat} {news : List (Addr × Obj)} (N : News h₀ L h news) (hm : (a, lst vs n) ∈ news) : h.IsList a vs.toArray := ⟨_, (N _ hm).1, rfl, n, rfl⟩
theorem RowsL.reverse {led : List (Addr × Obj)} {rvs : List Value} {rows : List (List Int)} (h : RowsL led rvs rows) : RowsL led rvs.reverse rows.reverse := by
  induction h with
  | nil => exact .nil
  | cons hm hi _ ih =>
    rw [List.reverse_cons, List.reverse_cons]
    exact ih.snoc hm hi
/-- the last row's place -/
theorem RowsL.last {led : List (Addr × Obj)} {rvs : List Value} {rows : List (List Int)} (h : RowsL led rvs rows) (hne : rows ≠ []) : ∃ r vs n, rvs[rvs.length - 1]? = some (.ref r) ∧ (r, lst vs n) ∈ led ∧ IntsAre vs (rows.getLastD []) := by
  have h0 := List.length_pos_iff.mpr hne
  obtain ⟨r, vs, n, h1, h2, h3⟩ := h.get (rows.length - 1) (by omega)
  have e : rows[rows.length - 1]'(by omega) = rows.getLastD [] := by
    rw [List.getLastD_eq_getLast?, List.getLast?_eq_getElem?, List.getElem?_eq_getElem (by omega)]
    rfl
  rw [e] at h3
  exact ⟨r, vs, n, by rw [h.len]; exact h1, h2, h3⟩
section
variable {prog : Program} {w : World} {A : Around} {E : Value → Shared → Prop} {s : Shared}
theorem item_neg1 {value slice : Expr} {l : Addr} {rvs : List Value} {v : Value} {u : Tok} {Q : Value → Shared → Prop} (hl : s.heap.IsList l rvs.toArray) (hv : rvs[rvs.length - 1]? = some v) (h : Q v s)
    (hs : subscripted slice false (.ref l) (.int (-1) u) = operate [.ref l, .int (-1) u] (getItem (.ref l) (.int (-1) u)) := by with_unfolding_all rfl) :
    wpAny (model prog w) A (subscriptTail value slice (.ref l) (.int (-1) u)) Q E s := by
  have h0 : 0 < rvs.length := by
    cases rvs with
    | nil => simp at hv
    | cons _ _ => simp
  have hsz : rvs.toArray.size = rvs.length := by simp
  refine subscriptTail_builtinR hl.typeIs slot_list_getitem.lookup (wpAny_getItem_list_neg (x := v) (Q := fun v' s' => v' = v ∧ Q v' s') hl (by decide) (by rw [hsz]; omega) (by decide) ?_ ⟨rfl, h⟩) hs
  rw [hsz]
  have e2 : (-1 + (rvs.length : Int)).toNat = rvs.length - 1 := by omega
  rw [e2]
  simpa using hv
end
/-- the list of what is to be divided: the two and a multiple or none -/
def SomQ (h₀ : Heap) (s : Shared) (L Bx qA : Addr) (m : Str → Option Value) (A B F : List Int) (cells rest : List (Addr × Obj)) (v : Value) (s₁ : Shared) : Prop :=
  ∃ M rvs n Xa xv xn X h tk oB oQ, v = .ref M ∧ s₁ = { s with heap := h, toks := tk } ∧ IsBox qA oB oQ ∧ Beside F X ∧ NEs M ((Bx, oB) :: (qA, oQ) :: cells) ∧ NEs Xa ((Bx, oB) :: (qA, oQ) :: cells) ∧ RowsL ((Xa, lst xv xn) :: rest) rvs ([A, B] ++ X) ∧
    Fr h₀ L h m ∧ News h₀ L h ((M, lst rvs n) :: (Xa, lst xv xn) :: (Bx, oB) :: (qA, oQ) :: (cells ++ rest))
section
variable {prog : Program} {w : World} {A : Around} {E : Value → Shared → Prop} {s : Shared} {h₀ : Heap} {L : Addr} {m : Str → Option Value}
theorem mul_one0 {l : Addr} {v : Value} {u : Tok} {news : List (Addr × Obj)} {Q : Value → Shared → Prop} (F : Fr h₀ L s.heap m) (N : News h₀ L s.heap news) (hl : (l, W.listOf #[v] 0) ∈ news)
    (h : ∀ M h', (∀ p ∈ news, @LT.lt Nat _ p.1 M) → Fr h₀ L h' m → News h₀ L h' ((M, W.listOf #[] 0) :: news) → Q (.ref M) { s with heap := h' }) :
    wpAny (model prog w) A (binaryOp .Mult (.ref l) (.int 0 u)) Q E s :=
  mul_list F N (N _ hl).1 (by decide) (by decide) (by simp) fun h' F' N' => h _ h' (fun p hp => Heap.lt_size (N p hp).1) F' N'
theorem mul_one1 {l : Addr} {v : Value} {u : Tok} {news : List (Addr × Obj)} {Q : Value → Shared → Prop} (F : Fr h₀ L s.heap m) (N : News h₀ L s.heap news) (hl : (l, W.listOf #[v] 0) ∈ news)
    (h : ∀ M h', (∀ p ∈ news, @LT.lt Nat _ p.1 M) → Fr h₀ L h' m → News h₀ L h' ((M, W.listOf #[v] 0) :: news) → Q (.ref M) { s with heap := h' }) :
    wpAny (model prog w) A (binaryOp .Mult (.ref l) (.int 1 u)) Q E s :=
  mul_list F N (N _ hl).1 (by decide) (by decide) (by simp) fun h' F' N' => h _ h' (fun p hp => Heap.lt_size (N p hp).1) F' N'
theorem cat_two {l b : Addr} {vs ws : List Value} {news : List (Addr × Obj)} {Q : Value → Shared → Prop} (F : Fr h₀ L s.heap m) (N : News h₀ L s.heap news) (hl : s.heap.IsList l vs.toArray) (hb : s.heap.IsList b ws.toArray) (hsz : vs.length + ws.length ≤ 100)
    (h : ∀ M h', (∀ p ∈ news, @LT.lt Nat _ p.1 M) → Fr h₀ L h' m → News h₀ L h' ((M, lst (vs ++ ws) 0) :: news) → Q (.ref M) { s with heap := h' }) :
    wpAny (model prog w) A (binaryOp .Add (.ref l) (.ref b)) Q E s :=
  add_lists F N hl hb (fun h' F' N' => h _ h' (fun p hp => Heap.lt_size (N p hp).1) F' N') (by rw [sizeLine_eq]; omega)
end
theorem Beside.len {F : List Int} {X : List (List Int)} (h : Beside F X) : X.length ≤ 1 := by
  rcases h with rfl | ⟨p, _, _, _, rfl⟩ <;> simp
/-- and an empty one or none -/
def SomQ2 (h₀ : Heap) (s : Shared) (L : Addr) (m : Str → Option Value) (rows : List (List Int)) (cells rest : List (Addr × Obj)) (v : Value) (s₁ : Shared) : Prop :=
  ∃ M rvs n Ya yv yn Y h tk, v = .ref M ∧ s₁ = { s with heap := h, toks := tk } ∧ (Y = [] ∨ Y = [[]]) ∧ NEs M cells ∧ NEs Ya cells ∧ RowsL ((Ya, lst yv yn) :: rest) rvs (rows ++ Y) ∧
    Fr h₀ L h m ∧ News h₀ L h ((M, lst rvs n) :: (Ya, lst yv yn) :: (cells ++ rest))
theorem turn_none {i : Nat} {r : Int} (h : i = 1) (h2 : r < 2) : ¬ i < r.toNat := by omega
structure BX where
  X : List (Addr × Obj)
  oB : Obj
  oQ : Obj
section
local macro_rules | `(tactic| walk_at "idle") => `(tactic| fail "idle")
local macro_rules | `(tactic| walk_at "eval IfExp") => `(tactic| ((fail_if_success (with_reducible show wpAny _ _ _ (ShQ _ _ _ _ _ _ _) _ _)); refine Stop.out ?_))
local macro_rules | `(tactic| walk_at "eval BinOp") => `(tactic| ((with_reducible show wpAny _ _ (eval (Expr.BinOp (Expr.List _ _) _ (Expr.ListComp _ _ _ _) _) _) _ _ _); (fail_if_success (with_reducible show wpAny _ _ _ (SomQ _ _ _ _ _ _ _ _ _ _ _) _ _)); refine Stop.out ?_))
local macro_rules | `(tactic| walk_at "eval BinOp") => `(tactic| ((with_reducible show wpAny _ _ (eval (Expr.BinOp (Expr.Name _ _) _ (Expr.BinOp (Expr.List _ _) _ _ _) _) _) _ _ _); (fail_if_success (with_reducible show wpAny _ _ _ (SomQ2 _ _ _ _ _ _ _) _ _)); refine Stop.out ?_))
local macro_rules | `(tactic| walk_at "binaryOp Mult ref int") => `(tactic| refine Stop.out ?_)
local macro_rules | `(tactic| walk_at "binaryOp Add ref ref") => `(tactic| ((with_reducible show wpAny _ _ _ (SomQ2 _ _ _ _ _ _ _) _ _); refine Stop.out ?_))
local macro_rules | `(tactic| walk_at "CompSrcT") => `(tactic| refine Stop.out ?_)
local macro_rules | `(tactic| walk_at "CompSrc") => `(tactic| refine Stop.out ?_)
local macro_rules | `(tactic| walk_at "call ref") => `(tactic| refine Stop.out ?_)
local macro_rules | `(tactic| walk_at "compareOp NotEq bool bool") => `(tactic| refine Stop.out ?_)
local macro_rules | `(tactic| walk_at "compareOp NotEq ref ref") => `(tactic| refine Stop.out ?_)
local macro_rules | `(tactic| walk_at "subscriptTail Name UnaryOp ref int") => `(tactic| refine item_neg1 (by is_list) (by assumption) ?_)
local macro_rules | `(tactic| walk_at "call builtin:len") => `(tactic| (refine len_any (by is_list) (by assumption) (by omega) ?_; (try dsimp only)))
local macro_rules | `(tactic| walk_at "eval ListComp") => `(tactic| refine Stop.out ?_)
theorem law_ok (w : World) (a : Addr) (ns : List Int) (hn : ns.length ≤ 63) :
    CallOk w 215 [.ref a] 140 (IntsAt a ns) (RetBool true) := by
  refine enterCH [("script", .ref a)] (by k_is) (by k_is) (fun _ => BindsTo.of_eq rfl) (kindsX rfl) (by decide +kernel) rfl rfl rfl ?_
  intro mean mg mb dp un gd h₀ s L Qb cells base outer hQb F N Y X T B hd hu ⟨vs, hl, hi⟩
  have hlen := hi.length
  k_cells Y
  generalize hK1 : L + 1 = K1 at *
  rename_i oc1 oc2 oc3 dc1 dc2 dc3
  repeat' (first | (k_unfold; (try dsimp only)) | walk1 | (dsimp only; walk1) | (leave1; (try dsimp only)) | fail "no step")
  rename Fr _ _ _ _ => F1
  rename News _ _ _ _ => N1
  rename_i DS ws _ hI5 _ _ _ qA cQ _ lq Bx _ lB _ ob dob
  obtain ⟨oB, oQ, hbox, N2⟩ := box_of N1 hI5 (by simp; omega)
  have N3 := kst_newsOf N2 (l' := [(Bx, oB), (qA, oQ), (K1 + 1 + 1, oc1), (K1 + 1, oc2), (K1, ob)]) (by kst_in)
  clear N1 N2 hI5
  obtain ⟨m0, -, F1⟩ := seat_fr [] F1 (List.forall_mem_nil _)
  obtain ⟨m1, em⟩ := the_map F1
  refine Stop.mk (wpAny_mono (Q := ShQ h₀ s L Bx qA m1 [(K1 + 1 + 1, oc1), (K1 + 1, oc2), (K1, ob)]) ?_ (fun v s₁ hq => ?_) (fun _ _ e => e))
  · repeat' (first | (k_unfold; (try dsimp only)) | walk1 | (dsimp only; walk1) | (leave1; (try dsimp only)) | fail "no step")
    refine Stop.mk (draw_take (many := 3) (by decide) hbox B F1 N3 (off2_of (by (repeat (first | exact trivial | refine And.intro ?_ ?_ | k_ne)))) (by k_ne) X T rfl (hdD hd (by decide)) (hdU hu (by decide)) ?_)
    intro r3 t3 h3 tk3 oB oQ g1 g2 hbox F4 N4
    clear F1 N3
    repeat' (first | (k_unfold; (try dsimp only)) | walk1 | (dsimp only; walk1) | (leave1; (try dsimp only)) | fail "no step")
    · refine Stop.mk (draw_poly (most := 1) (by decide) (by decide) hbox B F4 N4 (off2_of (by (repeat (first | exact trivial | refine And.intro ?_ ?_ | k_ne)))) (by k_ne) X T rfl (hdD hd (by decide)) (hdU hu (by decide)) ?_)
      intro Sa sv sn S h5 tk5 oB oQ p1 p2 p3 p4 hS hbox F5 N5 hne
      clear F4 N4
      repeat' (first | (k_unfold; (try dsimp only)) | walk1 | (dsimp only; walk1) | (leave1; (try dsimp only)) | fail "no step")
      exact ⟨Sa, sv, sn, S, h5, tk5, oB, oQ, rfl, rfl, p1, by omega, p4, hS, hbox, NEs.re2 (NEs.of hne), em ▸ F5, N5⟩
    · rename Fr _ _ _ _ => F5
      rename News _ _ _ _ => N5
      exact ⟨_, [.int 1 _], 0, [1], _, _, oB, oQ, rfl, rfl, by simp [Nz], by simp, (fun x hx => by rw [List.mem_singleton.mp hx]; decide), .cons _ _ .nil, hbox, (by exact .cons (by k_ne) (.cons (by k_ne) (.cons (by k_ne) (.cons (by k_ne) (.cons (by k_ne) (.nil)))))), em ▸ F5, N5⟩
  · obtain ⟨Sa, sv, sn, S, h2, tk2, oB, oQ, rfl, rfl, nS, lS, sS, hS, hbox, hSo, F2, N2⟩ := hq
    have hS1 := List.length_pos_iff.mpr nS.ne
    have hSv := hS.length
    clear F1 N3
    subst em
    repeat' (first | (k_unfold; (try dsimp only)) | walk1 | (dsimp only; walk1) | (leave1; (try dsimp only)) | fail "no step")
    rename Fr _ _ _ _ => F3
    rename News _ _ _ _ => N3
    -- the first polynomial
    refine Stop.mk (draw_poly (most := 2) (rest := [(Sa, lst sv sn), (K1 + 1 + 1, oc1), (K1 + 1, oc2), (K1, ob)]) (by decide) (by decide) hbox B F3 (kst_newsOf N3 (by kst_in)) (off2_of (by (repeat (first | exact trivial | refine And.intro ?_ ?_ | k_ne)))) (by k_ne) X T rfl (hdD hd (by decide)) (hdU hu (by decide)) ?_)
    intro Pa pv pn P h5 tk5 oB oQ p1 p2 p3 p4 hP hbox F5 N5 hne
    have hPo := NEs.of hne
    have hPv := hP.length
    clear F3 N3 hne
    repeat' (first | (k_unfold; (try dsimp only)) | walk1 | (dsimp only; walk1) | (leave1; (try dsimp only)) | fail "no step")
    refine Stop.mk (CallOk.useL (product_ok w Pa Sa P S p1.ne (by omega) (by omega) (p4.mono (by decide)) (sS.mono (by decide))) B F5 N5 X T rfl (hdD hd (by decide)) (hdU hu (by decide)) ⟨⟨pv, by is_list, hP⟩, ⟨sv, by is_list, hS⟩⟩ ?_)
    intro Aa av an h6 tk6 F6 N6 hA _ hne
    have hAo := NEs.of hne
    have hAv := hA.length
    clear F5 N5 hne
    repeat' (first | (k_unfold; (try dsimp only)) | walk1 | (dsimp only; walk1) | (leave1; (try dsimp only)) | fail "no step")
    rename Fr _ _ _ _ => F7
    rename News _ _ _ _ => N7
    -- the second
    have hfd : ((S.length : Int).fdiv 2 = 0 ∧ S.length = 1) ∨ ((S.length : Int).fdiv 2 = 1 ∧ S.length = 2) := by
      have : S.length = 1 ∨ S.length = 2 := by omega
      rcases this with e | e <;> rw [e] <;> decide
    refine Stop.mk (draw_poly (rest := [(Aa, lst av an), (Sa, lst sv sn), (K1 + 1 + 1, oc1), (K1 + 1, oc2), (K1, ob)]) (by omega) (by omega) hbox B F7 (kst_newsOf N7 (by kst_in)) (off2_of (by (repeat (first | exact trivial | refine And.intro ?_ ?_ | k_ne)))) (by k_ne) X T rfl (hdD hd (by decide)) (hdU hu (by decide)) ?_)
    intro Ga gv gn G h8 tk8 oB oQ q1 q2 q3 q4 hG hbox F8 N8 hne
    have hGo := NEs.of hne
    have hGv := hG.length
    clear F7 N7 hne
    repeat' (first | (k_unfold; (try dsimp only)) | walk1 | (dsimp only; walk1) | (leave1; (try dsimp only)) | fail "no step")
    refine Stop.mk (CallOk.useL (product_ok w Ga Sa G S q1.ne (by omega) (by omega) (q4.mono (by decide)) (sS.mono (by decide))) B F8 N8 X T rfl (hdD hd (by decide)) (hdU hu (by decide)) ⟨⟨gv, by is_list, hG⟩, ⟨sv, by is_list, hS⟩⟩ ?_)
    intro Ba bv bn h9 tk9 F9 N9 hBb _ hne
    have hBo := NEs.of hne
    have dr : Drawn S (productN P S) (productN G S) := drawn_of nS lS sS p1 q1 p2 q2 (by omega) (by omega) p4 q4
    obtain ⟨A, eA⟩ : ∃ A, productN P S = A := ⟨_, rfl⟩
    obtain ⟨B', eB⟩ : ∃ B', productN G S = B' := ⟨_, rfl⟩
    rw [eA] at hA hAv dr
    rw [eB] at hBb dr
    have hBv := hBb.length
    have hlA := dr.lA
    have hlB := dr.lB
    clear F8 N8 hne eA eB hGo hPo hG hP p1 p2 p3 p4 q1 q2 q3 q4 hGv hPv hfd
    repeat' (first | (k_unfold; (try dsimp only)) | walk1 | (dsimp only; walk1) | (leave1; (try dsimp only)) | fail "no step")
    rename Fr _ _ _ _ => F10
    rename News _ _ _ _ => N10
    -- the row
    refine Stop.mk (useR2 (subresultants_ok w Aa Ba A B' (by omega) (by omega) dr.fine) B F10 (kst_newsOf N10 (l' := [(Ba, lst bv bn), (Bx, oB), (qA, oQ), (Aa, lst av an), (Sa, lst sv sn), (K1 + 1 + 1, oc1), (K1 + 1, oc2), (K1, ob)]) (by kst_in)) X T rfl (hdD hd (by decide)) (hdU hu (by decide)) ⟨⟨av, by is_list, hA⟩, ⟨bv, by is_list, hBb⟩⟩ ?_)
    intro Ra rvs rn led h11 tk11 F11 N11 hR hRne hRled
    have hRo := NEs.of hRne
    clear F10 N10 hRne
    repeat' (first | (k_unfold; (try dsimp only)) | walk1 | (dsimp only; walk1) | (leave1; (try dsimp only)) | fail "no step")
    rename Fr _ _ _ _ => F12
    rename News _ _ _ _ => N12
    refine Stop.mk (CallOk.useB (right_any w Aa Ba Ra dr) B F12 N12 X T rfl (hdD hd (by decide)) (hdU hu (by decide)) ⟨⟨av, isList_of (n := an) N12 (.tail _ (List.mem_append_right _ (by (repeat (first | with_reducible exact List.mem_cons_self | with_reducible refine List.mem_cons_of_mem _ ?_))))), hA⟩, ⟨bv, isList_of (n := bn) N12 (.tail _ (List.mem_append_right _ (by (repeat (first | with_reducible exact List.mem_cons_self | with_reducible refine List.mem_cons_of_mem _ ?_))))), hBb⟩, ⟨rvs, isList_of N12 (.head _), RowsAt.of hR N12 (fun p hp => .tail _ (List.mem_append_left _ hp))⟩⟩ ?_)
    intro h13 tk13 F13 N13
    -- of the row the last is kept
    obtain ⟨Za, zv, zn, hZr, hZm, hZ⟩ := hR.last (subresN_ne A B')
    have hZo := NEs.of (d := Za) (fun p hp => Ne.symm (hRled p hp _ hZm))
    have N14 : News h₀ L h13 ((Za, lst zv zn) :: (Ra, lst rvs rn) :: [(Ba, lst bv bn), (Bx, oB), (qA, oQ), (Aa, lst av an), (Sa, lst sv sn), (K1 + 1 + 1, oc1), (K1 + 1, oc2), (K1, ob)]) := by
      intro p hp
      rcases List.mem_cons.mp hp with rfl | hp
      · exact N13 _ (.tail _ (List.mem_append_left _ hZm))
      · rcases List.mem_cons.mp hp with rfl | hp
        · exact N13 _ (.head _)
        · exact N13 _ (.tail _ (List.mem_append_right _ hp))
    clear F12 N12 N13 hRled hR
    have hrv : rvs.length ≠ 0 := by
      intro e
      rw [List.eq_nil_of_length_eq_zero e] at hZr
      simp at hZr
    obtain ⟨l1, l2, l3, l4⟩ := dr.last
    obtain ⟨Zs, eZ⟩ : ∃ Zs, (subresN A B').getLastD [] = Zs := ⟨_, rfl⟩
    rw [eZ] at hZ l1 l2 l3 l4
    have hZv := hZ.length
    obtain ⟨f1, f2, f3, f4, f5⟩ := dr.found
    repeat' (first | (k_unfold; (try dsimp only)) | walk1 | (dsimp only; walk1) | (leave1; (try dsimp only)) | fail "no step")
    rename Fr _ _ _ _ => F15
    rename News _ _ _ _ => N15
    refine Stop.mk (CallOk.useL (zgcd_ok w Aa Ba A B' dr.pair.1) B F15 N15 X T rfl (hdD hd (by decide)) (hdU hu (by decide)) ⟨⟨av, by is_list, hA⟩, ⟨bv, by is_list, hBb⟩⟩ ?_)
    intro Fa fv fn h16 tk16 F16 N16 hF _ hne
    have hFo := NEs.of hne
    clear F15 N15 hne
    have sF := dr.pair.2.2
    obtain ⟨Fd, eF⟩ : ∃ Fd, zgcdN A B' = Fd := ⟨_, rfl⟩
    rw [eF] at hF l2 l3 f1 f2 f3 f4 f5 sF
    have hFv := hF.length
    have f6 := List.length_pos_iff.mpr f1.ne
    repeat' (first | (k_unfold; (try dsimp only)) | walk1 | (dsimp only; walk1) | (leave1; (try dsimp only)) | fail "no step")
    rename Fr _ _ _ _ => F17
    rename News _ _ _ _ => N17
    rename_i of dof
    refine Stop.mk (CallOk.useL (plain_ok w Fa Fd (by omega) f1 (sF.mono (by decide))) B F17 N17 X T rfl (hdD hd (by decide)) (hdU hu (by decide)) ⟨fv, by is_list, hF⟩ ?_)
    intro Qa qv qn h18 tk18 F18 N18 hQ _ hne
    have hQo := NEs.of hne
    have hQv := hQ.length
    rw [primN_len] at hQv
    clear F17 N17 hne
    repeat' (first | (k_unfold; (try dsimp only)) | walk1 | (dsimp only; walk1) | (leave1; (try dsimp only)) | fail "no step")
    rename Fr _ _ _ _ => F19
    rename News _ _ _ _ => N19
    refine Stop.mk (CallOk.useL (plain_ok w Za Zs (by omega) l1 (l4.mono (by decide))) B F19 N19 X T rfl (hdD hd (by decide)) (hdU hu (by decide)) ⟨zv, by is_list, hZ⟩ ?_)
    intro Ya yv yn h20 tk20 F20 N20 hY _ hne
    have hYo := NEs.of hne
    have hYv := hY.length
    rw [primN_len] at hYv
    clear F19 N19 hne
    repeat' (first | (k_unfold; (try dsimp only)) | walk1 | (dsimp only; walk1) | (leave1; (try dsimp only)) | fail "no step")
    refine Stop.mk (ke_ne_ints (by is_list) (by is_list) hQ hY (hdV hu (by decide)) ?_)
    rw [decide_eq_true l3.symm]
    have N21 := kst_newsOf N20 (l' := [(Fa, lst fv fn), (Za, lst zv zn), (Ra, lst rvs rn), (Ba, lst bv bn), (Bx, oB), (qA, oQ), (Aa, lst av an), (Sa, lst sv sn), (K1 + 1 + 1, oc1), (K1 + 1, of), (K1, ob)]) (by kst_in)
    clear N20 hQo hYo hQ hY hQv hYv
    repeat' (first | (k_unfold; (try dsimp only)) | walk1 | (dsimp only; walk1) | (leave1; (try dsimp only)) | fail "no step")
    refine Stop.mk (CallOk.useB (zcoprime_ok w Aa Ba A B' dr.pair.1) B F20 N21 X T rfl (hdD hd (by decide)) (hdU hu (by decide)) ⟨⟨av, by is_list, hA⟩, ⟨bv, by is_list, hBb⟩⟩ ?_)
    rw [eF]
    intro h22 tk22 F22 N22
    clear F20 N21
    repeat' (first | (k_unfold; (try dsimp only)) | walk1 | (dsimp only; walk1) | (leave1; (try dsimp only)) | fail "no step")
    have eb : (decide (Fd.length = 1) != ((Zs.length : Int) == 1)) = false := by
      by_cases h1 : Fd.length = 1
      · simp [h1, l2]
      · have h2 : ¬ (Zs.length : Int) = 1 := by omega
        simp [h1, h2]
    refine Stop.mk (ne_bool ?_)
    rw [eb]
    have f7 : 0 < Fd.getD (-1 + (Fd.length : Int)).toNat 0 := by
      have e : (-1 + (Fd.length : Int)).toNat = Fd.length - 1 := by omega
      rw [e, ← getLastD_getD]
      exact f2
    repeat' (first | (k_unfold; (try dsimp only)) | walk1 | (dsimp only; walk1) | (leave1; (try dsimp only)) | fail "no step")
    rename Fr _ _ _ _ => F23
    rename News _ _ _ _ => N23
    refine Stop.mk (CallOk.useL (zgcd_ok w Ba Aa B' A dr.pair'.1) B F23 N23 X T rfl (hdD hd (by decide)) (hdU hu (by decide)) ⟨⟨bv, by is_list, hBb⟩, ⟨av, by is_list, hA⟩⟩ ?_)
    rw [dr.swap, eF]
    intro Ga gv gn h24 tk24 F24 N24 hG _ hne
    have hGo := NEs.of hne
    have hGv := hG.length
    clear F23 N23 hne
    repeat' (first | (k_unfold; (try dsimp only)) | walk1 | (dsimp only; walk1) | (leave1; (try dsimp only)) | fail "no step")
    refine Stop.mk (ke_ne_ints (by is_list) (by is_list) hG hF (hdV hu (by decide)) ?_)
    rw [decide_eq_true rfl]
    have N25 := kst_newsOf N24 (l' := [(Fa, lst fv fn), (Ba, lst bv bn), (Bx, oB), (qA, oQ), (Aa, lst av an), (K1 + 1 + 1, oc1), (K1 + 1, of), (K1, ob)]) (by kst_in)
    clear N24 hGo hG hGv hZr hZm hZo hRo hrv
    repeat' (first | (k_unfold; (try dsimp only)) | walk1 | (dsimp only; walk1) | (leave1; (try dsimp only)) | fail "no step")
    rename Fr _ _ _ _ => F27
    rename News _ _ _ _ => N27
    obtain ⟨m2, em2⟩ := the_map F27
    refine Stop.mk (wpAny_mono (Q := SomQ h₀ s L Bx qA m2 A B' Fd [(K1 + 1 + 1, oc1), (K1 + 1, of), (K1, ob)] [(Fa, lst fv fn), (Ba, lst bv bn), (Aa, lst av an)]) ?_ (fun v s₁ hq => ?_) (fun _ _ e => e))
    · repeat' (first | (k_unfold; (try dsimp only)) | walk1 | (dsimp only; walk1) | (leave1; (try dsimp only)) | fail "no step")
      rename Fr _ _ _ _ => F28
      rename News _ _ _ _ => N28
      refine Stop.mk ?_
      refine LCg.ListComp_U (F₀ := F28) (by with_unfolding_all rfl) (by decide) (by rfl) (by decide) (by rfl) ?_
      repeat' (first | (k_unfold; (try dsimp only)) | walk1 | (dsimp only; walk1) | (leave1; (try dsimp only)) | fail "no step")
      rename_i D0 _ lD0
      refine Stop.mk (draw_take (many := 2) (rest := [(D0, W.listOf #[Value.ref Aa, Value.ref Ba] 0), (Fa, lst fv fn), (Ba, lst bv bn), (Aa, lst av an), (K1 + 1 + 1, oc1), (K1 + 1, of), (K1, ob)]) (by decide) hbox B F28 (kst_newsOf N28 (by kst_in)) (off2_of (by (repeat (first | exact trivial | refine And.intro ?_ ?_ | k_ne)))) (by k_ne) X T rfl (hdD hd (by decide)) (hdU hu (by decide)) ?_)
      intro r tr h29 tk29 oB oQ r1 r2 hbox F29 N29
      clear F28 N28
      repeat' (first | (k_unfold; (try dsimp only)) | walk1 | (dsimp only; walk1) | (leave1; (try dsimp only)) | fail "no step")
      refine Stop.mk (LCg.CompSrc.range (n := r.toNat) rfl (by assumption) (by assumption) (by assumption) (small_one (by omega) (by omega) (by omega) (by omega)) ?_ (by rw [sizeLine_eq]; omega) (fun g => ?_))
      · have := rangeSize_nat 0 r
        omega
      · refine comp_stH (σ := BX) (fun c => c.X ++ [(Bx, c.oB), (qA, c.oQ), (D0, W.listOf #[Value.ref Aa, Value.ref Ba] 0), (Fa, lst fv fn), (Ba, lst bv bn), (Aa, lst av an), (K1 + 1 + 1, oc1), (K1 + 1, of), (K1, ob)])
          (fun i ys c => IsBox qA c.oB c.oQ ∧ ((i = 0 ∧ ys = [] ∧ c.X = []) ∨ (i = 1 ∧ ∃ Xa xv xn P, ys = [.ref Xa] ∧ c.X = [(Xa, lst xv xn)] ∧ Nz P ∧ P.length ≤ 2 ∧ Sm 2 P ∧ IntsAre xv (mulN P Fd) ∧ NEs Xa [(Bx, c.oB), (qA, c.oQ), (K1 + 1 + 1, oc1), (K1 + 1, of), (K1, ob)]))) ⟨[], oB, oQ⟩ ⟨hbox, .inl ⟨rfl, rfl, rfl⟩⟩ ?_ ?_
        · rintro i ys ⟨cX, oB, oQ⟩ v I oI C oC D m₂ s2 Qt2 E' hUt2 hin ⟨hbox, c2⟩ - hC hx F3 N3 off ne3
          obtain ⟨rfl, rfl, rfl⟩ : i = 0 ∧ ys = [] ∧ cX = [] := by
            rcases c2 with c2 | ⟨c2, _⟩
            · exact c2
            · exact absurd hin (turn_none c2 r2)
          have hoI := nes_off off
          obtain ⟨hoI, hoC, hoD⟩ := hoI
          dsimp only [List.nil_append] at hoI hoC hoD
          simp only [List.nil_append] at N3 off
          repeat' (first | (k_unfold; (try dsimp only)) | walk1 | (dsimp only; walk1) | (leave1; (try dsimp only)) | fail "no step")
          refine Stop.mk (draw_poly (most := 1) (rest := [(I, oI), (C, oC), (D, LCg.lst []), (D0, W.listOf #[Value.ref Aa, Value.ref Ba] 0), (Fa, lst fv fn), (Ba, lst bv bn), (Aa, lst av an), (K1 + 1 + 1, oc1), (K1 + 1, of), (K1, ob)]) (by decide) (by decide) hbox B F3 (kst_newsOf N3 (by kst_in)) (off2_of (by (repeat (first | exact trivial | refine And.intro ?_ ?_ | k_ne)))) (by k_ne) X T rfl (hdD hd (by decide)) (hdU hu (by decide)) ?_)
          intro Pa pv pn P h5 tk5 oB oQ p1 p2 p3 p4 hP hbox F5 N5 hne
          have hPo := NEs.of hne
          have hPv := hP.length
          clear F3 N3 hne
          repeat' (first | (k_unfold; (try dsimp only)) | walk1 | (dsimp only; walk1) | (leave1; (try dsimp only)) | fail "no step")
          refine Stop.mk (CallOk.useL (product_ok w Pa Fa P Fd p1.ne (by omega) (by omega) (p4.mono (by decide)) (sF.mono (by decide))) B F5 N5 X T rfl (hdD hd (by decide)) (hdU hu (by decide)) ⟨⟨pv, by is_list, hP⟩, ⟨fv, by is_list, hF⟩⟩ ?_)
          rw [product_mul p1 f1]
          intro Xa xv xn h6 tk6 F6 N6 hX _ hne
          have hXo := NEs.of hne
          clear F5 N5 hne
          repeat' (first | (k_unfold; (try dsimp only)) | walk1 | (dsimp only; walk1) | (leave1; (try dsimp only)) | fail "no step")
          simp only [LCg.Off3, and_true] at off
          refine hUt2 (comp_end (⟨[(Xa, lst xv xn)], oB, oQ⟩ : BX) F6 N6 (by kst_in) ?_ trivial ⟨hbox, .inr ⟨rfl, Xa, xv, xn, P, rfl, rfl, p1, by omega, p4, hX, (by exact .cons (by k_ne) (.cons (by k_ne) (.cons (by k_ne) (.cons (by k_ne) (.cons (by k_ne) (.nil))))))⟩⟩)
          simp only [LCg.Off3, List.cons_append, List.nil_append, and_true]
          exact ⟨⟨by k_ne, by k_ne, by k_ne⟩, off⟩
        · rintro ys ⟨cX, oB, oQ⟩ ⟨hbox, c2⟩ D h tk F3 N3 off
          have hoD := nes_off1 off
          rcases c2 with ⟨e1, rfl, e3⟩ | ⟨e1, Xa, xv, xn, P, rfl, e3, p1, p2, p4, hX, hXo⟩
          · dsimp only at e3
            subst e3
            dsimp only [List.nil_append] at N3 hoD
            repeat' (first | (k_unfold; (try dsimp only)) | walk1 | (dsimp only; walk1) | (leave1; (try dsimp only)) | fail "no step")
            rename Fr _ _ _ _ => F32
            rename News _ _ _ _ => N32
            rename_i M _ lM
            refine ⟨M, [.ref Aa, .ref Ba], _, Fa, fv, fn, [], _, _, oB, oQ, rfl, rfl, hbox, .inl rfl, (by exact .cons (by k_ne) (.cons (by k_ne) (.cons (by k_ne) (.cons (by k_ne) (.cons (by k_ne) (.nil)))))), (by exact .cons (by k_ne) (.cons (by k_ne) (.cons (by k_ne) (.cons (by k_ne) (.cons (by k_ne) (.nil)))))), .cons (n := an) (.tail _ (.tail _ (.tail _ (.head _)))) hA (.cons (n := bn) (.tail _ (.tail _ (.head _))) hBb .nil), em2 ▸ F32, kst_newsOf N32 (by kst_in)⟩
          · dsimp only at e3
            subst e3
            dsimp only [List.nil_append, List.cons_append] at N3 hoD
            repeat' (first | (k_unfold; (try dsimp only)) | walk1 | (dsimp only; walk1) | (leave1; (try dsimp only)) | fail "no step")
            rename Fr _ _ _ _ => F32
            rename News _ _ _ _ => N32
            rename_i M _ lM
            refine ⟨M, [.ref Aa, .ref Ba, .ref Xa], _, Xa, xv, xn, [mulN P Fd], _, _, oB, oQ, rfl, rfl, hbox, .inr ⟨P, p1, p2, p4, rfl⟩, (by exact .cons (by k_ne) (.cons (by k_ne) (.cons (by k_ne) (.cons (by k_ne) (.cons (by k_ne) (.nil)))))), (by exact .cons (by k_ne) (.cons (by k_ne) (.cons (by k_ne) (.cons (by k_ne) (.cons (by k_ne) (.nil)))))), .cons (n := an) (.tail _ (.tail _ (.tail _ (.head _)))) hA (.cons (n := bn) (.tail _ (.tail _ (.head _))) hBb (.cons (n := xn) (.head _) hX .nil)), em2 ▸ F32, kst_newsOf N32 (by kst_in)⟩
    · obtain ⟨M, rvs1, n1, Xa, xv, xn, X1, h33, tk33, oB, oQ, rfl, rfl, hbox, hX1, hMo, hXo, hR, F34, N34⟩ := hq
      clear F27 N27
      subst em2
      dsimp only [List.cons_append, List.nil_append] at N34
      have hrl := hR.len
      have hX1l := hX1.len
      simp only [List.cons_append, List.nil_append, List.length_cons] at hrl
      repeat' (first | (k_unfold; (try dsimp only)) | walk1 | (dsimp only; walk1) | (leave1; (try dsimp only)) | fail "no step")
      rename Fr _ _ _ _ => F35
      rename News _ _ _ _ => N35
      obtain ⟨m3, em3⟩ := the_map F35
      refine Stop.mk (wpAny_mono (Q := SomQ2 h₀ s L m3 ([A, B'] ++ X1) [(K1 + 1 + 1, oc1), (K1 + 1, of), (K1, ob)] [(Xa, lst xv xn), (Fa, lst fv fn), (Ba, lst bv bn), (Aa, lst av an)]) ?_ (fun v s₁ hq => ?_) (fun _ _ e => e))
      · repeat' (first | (k_unfold; (try dsimp only)) | walk1 | (dsimp only; walk1) | (leave1; (try dsimp only)) | fail "no step")
        rename Fr _ _ _ _ => F36
        rename News _ _ _ _ => N36
        rename_i E0 _ lE0 E1 _ lE1
        refine Stop.mk (draw_take (many := 2) (rest := [(E1, W.listOf #[Value.ref E0] 0), (E0, W.listOf #[] 0), (M, lst rvs1 n1), (Xa, lst xv xn), (K1 + 1 + 1, oc1), (K1 + 1, of), (K1, ob), (Fa, lst fv fn), (Ba, lst bv bn), (Aa, lst av an)]) (by decide) hbox B F36 (kst_newsOf N36 (by kst_in)) (off2_of (by (repeat (first | exact trivial | refine And.intro ?_ ?_ | k_ne)))) (by k_ne) X T rfl (hdD hd (by decide)) (hdU hu (by decide)) ?_)
        intro r tr h37 tk37 oB oQ r1 r2 hbox F37 N37
        clear F36 N36
        have hr2 : r = 0 ∨ r = 1 := by omega
        rcases hr2 with rfl | rfl
        · repeat' (first | (k_unfold; (try dsimp only)) | walk1 | (dsimp only; walk1) | (leave1; (try dsimp only)) | fail "no step")
          refine Stop.mk (mul_one0 F37 N37 (.tail _ (.tail _ (.head _))) (fun E2 h38 lE2 F38 N38 => ?_))
          have lE2 := LtAll.of lE2
          clear F37 N37
          repeat' (first | (k_unfold; (try dsimp only)) | walk1 | (dsimp only; walk1) | (leave1; (try dsimp only)) | fail "no step")
          refine Stop.mk (cat_two F38 N38 (vs := rvs1) (ws := []) (by is_list) (by is_list) (by simp only [List.length_cons, List.length_nil]; omega) (fun M2 h39 lM2 F39 N39 => ?_))
          have lM2 := LtAll.of lM2
          refine ⟨M2, _, _, Xa, xv, xn, [], h39, _, rfl, rfl, .inl rfl, (by exact .cons (by k_ne) (.cons (by k_ne) (.cons (by k_ne) (.nil)))), (by exact .cons (by k_ne) (.cons (by k_ne) (.cons (by k_ne) (.nil)))), ?_, em3 ▸ F39, kst_newsOf N39 (by kst_in)⟩
          · rw [List.append_nil, List.append_nil]
            exact hR.mono fun p hp => .tail _ hp
        · repeat' (first | (k_unfold; (try dsimp only)) | walk1 | (dsimp only; walk1) | (leave1; (try dsimp only)) | fail "no step")
          refine Stop.mk (mul_one1 F37 N37 (.tail _ (.tail _ (.head _))) (fun E2 h38 lE2 F38 N38 => ?_))
          have lE2 := LtAll.of lE2
          clear F37 N37
          repeat' (first | (k_unfold; (try dsimp only)) | walk1 | (dsimp only; walk1) | (leave1; (try dsimp only)) | fail "no step")
          refine Stop.mk (cat_two F38 N38 (vs := rvs1) (ws := [.ref E0]) (by is_list) (by is_list) (by simp only [List.length_cons, List.length_nil]; omega) (fun M2 h39 lM2 F39 N39 => ?_))
          have lM2 := LtAll.of lM2
          refine ⟨M2, _, _, E0, [], 0, [[]], h39, _, rfl, rfl, .inr rfl, (by exact .cons (by k_ne) (.cons (by k_ne) (.cons (by k_ne) (.nil)))), (by exact .cons (by k_ne) (.cons (by k_ne) (.cons (by k_ne) (.nil)))), ?_, em3 ▸ F39, kst_newsOf N39 (by kst_in)⟩
          · exact RowsL.snoc (n := 0) (hR.mono fun p hp => .tail _ hp) (.head _) .nil
      · obtain ⟨M2, rvs2, n2, Ya, yv, yn, Y1, h40, tk40, rfl, rfl, hY1, hM2o, hYo, hR2, F41, N41⟩ := hq
        clear F35 N35 hR hMo hbox
        subst em3
        dsimp only [List.cons_append, List.nil_append] at N41
        have hrl2 := hR2.len
        repeat' (first | (k_unfold; (try dsimp only)) | walk1 | (dsimp only; walk1) | (leave1; (try dsimp only)) | fail "no step")
        rename Fr _ _ _ _ => F42
        rename News _ _ _ _ => N42
        have hX2 : Beside (zgcdN A B') X1 := by rw [eF]; exact hX1
        obtain ⟨g1, g2⟩ := dr.forward hX2 hY1
        obtain ⟨g3, g4⟩ := dr.back hX2 hY1
        have g5 := dr.left hX2 hY1
        rw [eF] at g2 g4 g5
        have g6 : ([A, B'] ++ X1 ++ Y1).length ≤ 4 := by
          rcases hY1 with rfl | rfl <;> simp <;> omega
        obtain ⟨rows, erows⟩ : ∃ rows, [A, B'] ++ X1 ++ Y1 = rows := ⟨_, rfl⟩
        rw [erows] at hR2 hrl2 g1 g2 g3 g4 g5 g6
        obtain ⟨a1, a2, _⟩ := pair0 dr.nA (by omega) dr.sA (by decide)
        refine Stop.mk (CallOk.useL (zgcd_all_ok w M2 rows g1) B F42 N42 X T rfl (hdD hd (by decide)) (hdU hu (by decide)) ⟨rvs2, isList_of N42 (.head _), RowsAt.of hR2 N42 (by kst_in)⟩ ?_)
        rw [g2]
        intro Wa wv wn h43 tk43 F43 N43 hW _ hne
        have hWo := NEs.of hne
        have hWv := hW.length
        clear F42 N42 hne
        repeat' (first | (k_unfold; (try dsimp only)) | walk1 | (dsimp only; walk1) | (leave1; (try dsimp only)) | fail "no step")
        rename Fr _ _ _ _ => F44
        rename News _ _ _ _ => N44
        rename_i ow dow E5 _ lE5
        refine Stop.mk (CallOk.useL (zgcd_all_ok w E5 [] trivial) B F44 N44 X T rfl (hdD hd (by decide)) (hdU hu (by decide)) ⟨[], isList_of (n := 0) N44 (.head _), .nil⟩ ?_)
        intro Ga gv gn h45 tk45 F45 N45 hG _ hne
        have hGo := NEs.of hne
        clear F44 N44 hne
        repeat' (first | (k_unfold; (try dsimp only)) | walk1 | (dsimp only; walk1) | (leave1; (try dsimp only)) | fail "no step")
        refine Stop.mk (ke_ne_ints (by is_list) (ys := []) (by is_list) hG .nil (hdV hu (by decide)) ?_)
        rw [decide_eq_true (show zgcdAllN [] = [] from rfl)]
        rename News _ _ _ _ => N45
        have N46 := kst_newsOf N45 (l' := [(Wa, lst wv wn), (M2, lst rvs2 n2), (Ya, lst yv yn), (K1 + 1 + 1, ow), (K1 + 1, of), (K1, ob), (Xa, lst xv xn), (Fa, lst fv fn), (Ba, lst bv bn), (Aa, lst av an)]) (by kst_in)
        clear N45 hG hGo
        repeat' (first | (k_unfold; (try dsimp only)) | walk1 | (dsimp only; walk1) | (leave1; (try dsimp only)) | fail "no step")
        rename Fr _ _ _ _ => F47
        rename News _ _ _ _ => N47
        rename_i E6 _ lE6
        refine Stop.mk (CallOk.useL (zgcd_all_ok w E6 [A] ⟨a2, trivial⟩) B F47 N47 X T rfl (hdD hd (by decide)) (hdU hu (by decide)) ⟨[.ref Aa], isList_of (n := 0) N47 (.head _), RowsAt.cons (isList_of (n := an) N47 (by (repeat (first | with_reducible exact List.mem_cons_self | with_reducible refine List.mem_cons_of_mem _ ?_)))) hA .nil⟩ ?_)
        rw [show zgcdAllN [A] = normN A from zgcdN_nil_left A]
        intro Ga gv gn h48 tk48 F48 N48 hG _ hne
        have hGo := NEs.of hne
        have hGv := hG.length
        clear F47 N47 hne
        repeat' (first | (k_unfold; (try dsimp only)) | walk1 | (dsimp only; walk1) | (leave1; (try dsimp only)) | fail "no step")
        rename Fr _ _ _ _ => F49
        rename News _ _ _ _ => N49
        rename_i E7 _ lE7
        refine Stop.mk (CallOk.useL (zgcd_ok w Aa E7 A [] a1) B F49 N49 X T rfl (hdD hd (by decide)) (hdU hu (by decide)) ⟨⟨av, isList_of (n := an) N49 (by (repeat (first | with_reducible exact List.mem_cons_self | with_reducible refine List.mem_cons_of_mem _ ?_))), hA⟩, ⟨[], isList_of (n := 0) N49 (.head _), .nil⟩⟩ ?_)
        rw [zgcdN_nil_right]
        intro Ha hv hn9 h50 tk50 F50 N50 hH _ hne
        have hHo := NEs.of hne
        have hHv := hH.length
        clear F49 N49 hne
        repeat' (first | (k_unfold; (try dsimp only)) | walk1 | (dsimp only; walk1) | (leave1; (try dsimp only)) | fail "no step")
        refine Stop.mk (ke_ne_ints (by is_list) (by is_list) hG hH (hdV hu (by decide)) ?_)
        rw [decide_eq_true rfl]
        rename News _ _ _ _ => N51
        have N52 := kst_newsOf N51 (l' := [(Wa, lst wv wn), (M2, lst rvs2 n2), (Ya, lst yv yn), (K1 + 1 + 1, ow), (K1 + 1, of), (K1, ob), (Xa, lst xv xn), (Fa, lst fv fn), (Ba, lst bv bn), (Aa, lst av an)]) (by kst_in)
        clear N51 hG hGo hGv hH hHo hHv lE6 lE7
        repeat' (first | (k_unfold; (try dsimp only)) | walk1 | (dsimp only; walk1) | (leave1; (try dsimp only)) | fail "no step")
        rename Fr _ _ _ _ => F53
        rename News _ _ _ _ => N53
        have hR3 := hR2.reverse
        have l53 := (N53 _ (.head _)).1
        rw [krv_pick] at l53
        refine Stop.mk (CallOk.useL (zgcd_all_ok w _ rows.reverse g3) B F53 N53 X T rfl (hdD hd (by decide)) (hdU hu (by decide)) ⟨rvs2.reverse, ⟨_, l53, rfl, 0, rfl⟩, RowsAt.of hR3 N53 (by kst_in)⟩ ?_)
        clear l53
        rw [g4]
        intro Ga gv gn h54 tk54 F54 N54 hG _ hne
        clear hne F53 N53
        have N55 := kst_newsOf N54 (l' := [(Ga, lst gv gn), (Wa, lst wv wn), (M2, lst rvs2 n2), (Ya, lst yv yn), (K1 + 1 + 1, ow), (K1 + 1, of), (K1, ob), (Xa, lst xv xn), (Fa, lst fv fn), (Ba, lst bv bn), (Aa, lst av an)]) (by kst_in)
        clear N54
        repeat' (first | (k_unfold; (try dsimp only)) | walk1 | (dsimp only; walk1) | (leave1; (try dsimp only)) | fail "no step")
        refine Stop.mk (ke_ne_ints (isList_of (n := wn) N55 (by (repeat (first | with_reducible exact List.mem_cons_self | with_reducible refine List.mem_cons_of_mem _ ?_)))) (isList_of N55 (.head _)) hW hG (hdV hu (by decide)) ?_)
        rw [decide_eq_true rfl]
        have N56 := kst_newsOf N55 (l' := [(Wa, lst wv wn), (M2, lst rvs2 n2), (Ya, lst yv yn), (K1 + 1 + 1, ow), (K1 + 1, of), (K1, ob), (Xa, lst xv xn), (Fa, lst fv fn), (Ba, lst bv bn), (Aa, lst av an)]) (by kst_in)
        clear N55 hG
        repeat' (first | (k_unfold; (try dsimp only)) | walk1 | (dsimp only; walk1) | (leave1; (try dsimp only)) | fail "no step")
        refine Stop.mk ?_
        refine LCt.ListComp_T (F₀ := F54) (by with_unfolding_all rfl) (by decide) (by rfl) (by decide) (by rfl) ?_
        repeat' (first | (k_unfold; (try dsimp only)) | walk1 | (dsimp only; walk1) | (leave1; (try dsimp only)) | fail "no step")
        rename Fr _ _ _ _ => F57
        rename News _ _ _ _ => N57
        refine Stop.mk (LCt.CompSrcT.ledger (its := rvs2.toArray) (k := n2) rfl F57 N57 (by (repeat (first | with_reducible exact List.mem_cons_self | with_reducible refine List.mem_cons_of_mem _ ?_))) (by simp only [List.size_toArray, sizeLine_eq]; omega) (fun g => compT_noneH ?_ ?_))
        · rintro i v I oI C oC D m₂ s7 Qf7 E' hU7 hi9 hv hC hx F2 N2 off ne
          have hv2 : rvs2[i]? = some v := by simpa using hv
          have hi8 : i < rows.length := by
            have := (List.getElem?_eq_some_iff.mp hv2).1
            omega
          obtain ⟨r, vr, nr, q1, q2, q3⟩ := hR2.get i hi8
          rw [hv2] at q1
          cases q1
          obtain ⟨s1, s2, s3⟩ := g5 _ (List.getElem_mem hi8)
          have q4 := q3.length
          repeat' (first | (k_unfold; (try dsimp only)) | walk1 | (dsimp only; walk1) | (leave1; (try dsimp only)) | fail "no step")
          refine Stop.mk (CallOk.useL (left_ok w r Wa (rows[i]'hi8) Fd (by omega) (by omega) f1.ne (s2.mono (by decide)) (sF.mono (by decide))) B F2 N2 X T rfl (hdD hd (by decide)) (hdU hu (by decide)) ⟨⟨vr, isList_of (n := nr) N2 ((show ∀ p ∈ [(Ya, lst yv yn), (Xa, lst xv xn), (Fa, lst fv fn), (Ba, lst bv bn), (Aa, lst av an)], p ∈ _ from by kst_in) _ q2), q3⟩, ⟨wv, isList_of (n := wn) N2 (by (repeat (first | with_reducible exact List.mem_cons_self | with_reducible refine List.mem_cons_of_mem _ ?_))), hW⟩⟩ ?_)
          rw [s3]
          intro Va vv vn h58 tk58 F58 N58 hV _ hne
          clear hne
          repeat' (first | (k_unfold; (try dsimp only)) | walk1 | (dsimp only; walk1) | (leave1; (try dsimp only)) | fail "no step")
          rename Fr _ _ _ _ => F59
          rename News _ _ _ _ => N59
          refine Stop.mk (ke_ne_ints (by is_list) (ys := []) (by is_list) hV .nil (hdV hu (by decide)) ?_)
          rw [decide_eq_true rfl]
          repeat' (first | (k_unfold; (try dsimp only)) | walk1 | (dsimp only; walk1) | (leave1; (try dsimp only)) | fail "no step")
          exact hU7 (compT_no F59 N59 (by kst_in) off (.inr ⟨_, .tail _ (.head _), rfl, _, rfl⟩))
        · rintro D9 h9 tk9 F3 N3 off3
          repeat' (first | (k_unfold; (try dsimp only)) | walk1 | (dsimp only; walk1) | (leave1; (try dsimp only)) | fail "no step")
          rename Fr _ _ _ _ => F60
          exact hQb F60 rfl
end
end Mine
end

end
end

open PySem PySem.W PySem.Calls PySem.Spec PyProof.Rows
set_option maxRecDepth 100000 in
set_option maxHeartbeats 8000000 in
theorem PySem.Challenge.cw_pf0034_01_holds : PySem.Challenge.rw_pf0034_01.Holds := by
  refine Mine.hd ?_
  k_fill
  intro w s₀ s₁ mg mb G Y fa o pm cd doc dV kV ho hd' hcd hD hmg hg args vals as hpre hlay hrd hwl hlo
  have KX := kIn_of Y
  refine Ground.open G ?_
  intro T B D TE TW
  have hf := mg_of (n := Str.ofString "law") (v := .ref 215) KX T.g (by kernel_rfl)
  have hfa : fa = 215 := by
    have e : mg (Str.ofString "law") = some (.ref fa) := hmg
    rw [hf] at e
    cases e
    rfl
  subst hfa
  clear hmg hD hcd hd' ho
  wrow_args hpre hlay hrd hwl hlo
  rename_i ns _ _ _ _ _ _ _ a vs _ hl _ _ _ hi _ hc _
  refine wpAny_mono (Mine.law_ok w a ns (by omega) (ExcName.means s₀.heap) mg mb (1 + claimMargin) 4 (some []) [] s₁.heap s₁ _ (fun _ _ => False) KX T (by decide) (by decide) (below_caller _) ⟨vs, hl, hi⟩ (fun v h' tk' hk hv => ?_)) (fun _ _ h => h) (fun _ _ h => h.elim)
  have e : v = .bool true := hv
  subst e
  have hpost : (PySem.Challenge.rw_pf0034_01.row.claim).post [ofPy (PyData.list (List.map PyData.int ns))] (WData.bool true) [ofPy (PyData.list (List.map PyData.int ns))] = true := by
    with_unfolding_all rfl
  exact GoodW.toG ⟨.inl ⟨.bool true, .bool true, [], rfl, fun _ => rfl, .bool true, hpost, unshared_nil⟩, hk, rfl, hg⟩
