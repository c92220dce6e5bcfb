import PyProof.Rows.All
import Wide.All
import OpenK.AllK
import Wide.FinOn
import PySem.Challenge.RW_xm0977_01
open PySem PySem.W PySem.Calls PyProof.Rows PySem.Spec PyProof.Rows.LCg PyProof.Rows.LCt
set_option Elab.async false
set_option compiler.extract_closed false
set_option maxRecDepth 100000
set_option maxHeartbeats 0
set_option linter.all false
namespace Mine
def gate : Prop := True
def door : Prop := True
theorem gate_of (_ : PySem.Challenge.rw_xm0977_01.row.Holds) : gate = True := rfl
theorem door_of : door = True := rfl
theorem k : gate ∧ door := by
  simp (disch := k_head) only [gate_of, door_of, and_true]
  exact trivial
noncomputable abbrev KK (w : World) : Frag := Mine.k.heap_1 w.params
abbrev PR : Program := PySem.Challenge.rw_xm0977_01.row.prog
abbrev Led := List (Addr × Obj)
abbrev listO (vs : List Value) (n : Nat) : Obj := { cls := .type "list", data := .seq vs.toArray n }
abbrev tupO (vs : List Value) : Obj := { cls := .type "tuple", data := .seq vs.toArray }
abbrev arX (dp un : Nat) (gd : Option (List Code)) (envs : List Env) : Around := { handled := none, depth := dp, frames := some envs, guards := gd, units := un }

/-- there is room for d more; g has not shrunk: kept from omega's eyes -/
def Room (x d lim : Nat) : Prop := x + d < lim
def Grown (g h : Heap) : Prop := g.objs.size ≤ h.objs.size
theorem room_0 {x D lim : Nat} (h : Room x D lim) : x < lim := Nat.lt_of_le_of_lt (Nat.le_add_right x D) h
theorem room_k {x D lim k d : Nat} (h : Room x D lim) (hk : k + d ≤ D) : x + k + d < lim := Nat.lt_of_le_of_lt (by omega) h
theorem room_k2 {x D lim k l d : Nat} (h : Room x D lim) (hk : k + l + d ≤ D) : x + k + l + d < lim := Nat.lt_of_le_of_lt (by omega) h
theorem room_1 {x D lim k : Nat} (h : Room x D lim) (hk : k ≤ D) : x + k < lim := Nat.lt_of_le_of_lt (by omega) h
theorem room_k3 {x D lim k l m d : Nat} (h : Room x D lim) (hk : k + l + m + d ≤ D) : x + k + l + m + d < lim := Nat.lt_of_le_of_lt (by omega) h
/-- a call of the def at f, said of the state alone: pre may turn, rd is read alone -/
def SpecG (w : World) (f : Addr) (vs : List Value) (pre rd : Led) (Ret : Value → Led → Led → Prop) (Exc : Prop) (d u : Nat) : Prop :=
  ∀ (loose : List Str) (mean : ExcName → Option Value) (mg mb : Str → Option Value) (dp un : Nat) (gd : Option (List Code)) (envs : List Env) (base g : Heap) (s : Shared) (R : Result → Shared → Prop),
    Below (arX dp un gd envs) base envs g → (KK w).In g → Top topProg loose mean mg mb g →
    (∀ b o, g.get? b = some o → s.heap.get? b = some o) → Grown g s.heap →
    (∀ p ∈ pre ++ rd, s.heap.get? p.1 = some p.2 ∧ g.get? p.1 = none) →
    Room dp d recursionLimit → Room un u cLine →
    (∀ v upd new h' tk', (∀ b o, g.get? b = some o → h'.get? b = some o) → (∀ p ∈ upd ++ (new ++ rd), h'.get? p.1 = some p.2 ∧ g.get? p.1 = none) →
      (∀ p ∈ new, ∀ q ∈ pre ++ rd, q.1 ≠ p.1) → Ret v upd new → R (.ok (.ret v)) { s with heap := h', toks := tk' }) →
    (∀ e h' tk', RaisedSN base g envs e (.ref 52) [] h' → g.UpToSlots h' → Exc → R (.error (.ref e)) { s with heap := h', toks := tk' }) →
    codeAny (model PR w) (arX dp un gd envs) (.call (.ref f) ⟨vs, []⟩) R s
/-- nothing that stood turns -/
def Spec0 (w : World) (f : Addr) (vs : List Value) (rd : Led) (Ret : Value → Led → Prop) (Exc : Prop) (d u : Nat) : Prop :=
  SpecG w f vs [] rd (fun v upd new => upd = [] ∧ Ret v new) Exc d u
/-- one object turns -/
def Spec1 (w : World) (f : Addr) (vs : List Value) (l : Addr) (o : Obj) (rd : Led) (Ret : Value → Obj → Led → Prop) (Exc : Prop) (d u : Nat) : Prop :=
  SpecG w f vs [(l, o)] rd (fun v upd new => ∃ o', upd = [(l, o')] ∧ Ret v o' new) Exc d u

section
variable {w : World} {f : Addr} {vs : List Value} {pre rd led : Led} {Ret : Value → Led → Led → Prop} {Exc : Prop} {d u : Nat} {A₀ A : Around} {base h₀ : Heap} {outer : List Env} {L : Addr} {m : Str → Option Value} {env : Env} {s : Shared} {Q E : Value → Shared → Prop}
  {loose : List Str} {mean : ExcName → Option Value} {mg mb : Str → Option Value}
theorem spec_useG (S : SpecG w f vs pre rd Ret Exc d u)
    (B : Below A₀ base outer h₀) (F : Fr h₀ L s.heap m) (X : (KK w).In h₀) (N : News h₀ L s.heap led) (T : Top topProg loose mean mg mb h₀)
    (hA : A.frames = some (env :: outer)) (hh : A.handled = none) (hf : env.frame = some L) (hke : env.scope.kind = .function)
    (hsub : ∀ p ∈ pre ++ rd, p ∈ led) (hd : A.depth + d < recursionLimit) (hu : A.units + u < cLine)
    (ret : ∀ v upd new h' tk', Fr h₀ L h' m → News h₀ L h' (upd ++ new) → (∀ q ∈ led, (∀ p ∈ pre, q.1 ≠ p.1) → h'.get? q.1 = some q.2 ∧ q.1 ≠ L ∧ h₀.get? q.1 = none) → (∀ p ∈ new, ∀ q ∈ led, q.1 ≠ p.1) → Ret v upd new → Q v { s with heap := h', toks := tk' })
    (exc : ∀ e g h' tk', Fr h₀ L g m → (∀ q ∈ led, (∀ p ∈ pre ++ rd, q.1 ≠ p.1) → g.get? q.1 = some q.2) → RaisedSN base g (env :: outer) e (.ref 52) [] h' → g.UpToSlots h' → Exc → E (.ref e) { s with heap := h', toks := tk' }) :
    wpAny (model PR w) A (call (.ref f) vs) Q E s := by
  have N1 : News h₀ L s.heap (pre ++ rd) := fun p hp => N p (hsub p hp)
  obtain ⟨FG, BG, st, -⟩ := groundX (R := fun _ _ => True) B F N1 hA hf hke
  obtain ⟨hd', dp, fr, gd, un⟩ := A
  dsimp only at hA hh hd hu
  subst hA hh
  generalize hG : hideAll s.heap ((pre ++ rd).map fun x : Addr × Obj => x.1) = G at *
  have inG : ∀ q ∈ led, (∀ p ∈ pre ++ rd, q.1 ≠ p.1) → G.get? q.1 = some q.2 := fun q hq hn => by
    rw [← hG]
    refine hideAll_get _ (N q hq).1 fun hm => ?_
    obtain ⟨p, hp, e⟩ := List.mem_map.mp hm
    exact hn p hp e.symm
  have outG : ∀ p ∈ pre ++ rd, s.heap.get? p.1 = some p.2 ∧ G.get? p.1 = none := fun p hp => by
    rw [← hG]
    exact ⟨(N1 p hp).1, hideAll_none _ (List.mem_map_of_mem hp)⟩
  refine wpAny_call ?_
  refine S loose mean mg mb dp un gd (env :: outer) base G s _ BG (X.keeps st) (T.keeps st) (fun b o e => by rw [← hG] at e; exact of_hideAll _ e) (by rw [← hG]; exact Nat.le_of_eq (hideAll_size _ _)) outG hd hu ?_ ?_
  · intro v upd new h' tk' hk hp hnew hR
    obtain ⟨oL, es, ep, hL, hLr⟩ := FG.ns
    have off : ∀ b, G.get? b = none → b ≠ L ∧ h₀.get? b = none := fun b x2 => by
      refine ⟨fun e => ?_, ?_⟩
      · rw [e, hL] at x2; cases x2
      · cases q : h₀.get? b with
        | none => rfl
        | some o => rw [st _ _ q] at x2; cases x2
    have key : ∀ p ∈ upd ++ (new ++ rd), h'.get? p.1 = some p.2 ∧ p.1 ≠ L ∧ h₀.get? p.1 = none := fun p hp1 => ⟨(hp p hp1).1, off _ (hp p hp1).2⟩
    refine ret v upd new h' tk' ⟨⟨oL, es, ep, hk _ _ hL, hLr⟩, fun b o e => hk b o (st b o e), F.above⟩ (fun p hp' => ?_) (fun q hq hn => ?_) (fun p hp' q hq e => ?_) hR
    · rcases List.mem_append.mp hp' with h1 | h1
      · exact key p (List.mem_append_left _ h1)
      · exact key p (List.mem_append_right _ (List.mem_append_left _ h1))
    · refine ⟨?_, (N q hq).2⟩
      by_cases hx : ∃ p ∈ rd, q.1 = p.1
      · obtain ⟨p, hpr, e⟩ := hx
        have h1 := (N p (hsub p (List.mem_append_right _ hpr))).1
        have h2 := (N q hq).1
        rw [e, h1] at h2
        rw [e, (key p (List.mem_append_right _ (List.mem_append_right _ hpr))).1]
        exact h2
      · exact hk _ _ (inG q hq fun p hp' e => by
          rcases List.mem_append.mp hp' with h1 | h1
          · exact hn p h1 e
          · exact hx ⟨p, h1, e⟩)
    · by_cases hx : ∃ p ∈ pre ++ rd, q.1 = p.1
      · obtain ⟨p', hp'', e'⟩ := hx
        exact hnew p hp' p' hp'' (e'.symm.trans e)
      · have x2 := (hp p (List.mem_append_right _ (List.mem_append_left _ hp'))).2
        rw [← e, inG q hq fun p' hp'' e' => hx ⟨p', hp'', e'⟩] at x2; cases x2
  · intro e h' tk' hR hU hE
    exact exc e G h' tk' FG inG hR hU hE

theorem spec_use0 {Ret : Value → Led → Prop} (S : Spec0 w f vs rd Ret Exc d u)
    (B : Below A₀ base outer h₀) (F : Fr h₀ L s.heap m) (X : (KK w).In h₀) (N : News h₀ L s.heap led) (T : Top topProg loose mean mg mb h₀)
    (hA : A.frames = some (env :: outer)) (hh : A.handled = none) (hf : env.frame = some L) (hke : env.scope.kind = .function)
    (hsub : SubL rd led) (hd : A.depth + d < recursionLimit) (hu : A.units + u < cLine)
    (ret : ∀ v new h' tk', Fr h₀ L h' m → News h₀ L h' (new ++ led) → (∀ p ∈ new, ∀ q ∈ led, q.1 ≠ p.1) → Ret v new → Q v { s with heap := h', toks := tk' })
    (exc : ∀ e g h' tk', Fr h₀ L g m → (∀ q ∈ led, (∀ p ∈ rd, q.1 ≠ p.1) → g.get? q.1 = some q.2) → RaisedSN base g (env :: outer) e (.ref 52) [] h' → g.UpToSlots h' → Exc → E (.ref e) { s with heap := h', toks := tk' }) :
    wpAny (model PR w) A (call (.ref f) vs) Q E s := by
  refine spec_useG S B F X N T hA hh hf hke hsub.mem hd hu ?_ exc
  rintro v upd new h' tk' F' N' hkeep hne ⟨rfl, hR⟩
  refine ret v new h' tk' F' (fun p hp => ?_) hne hR
  rcases List.mem_append.mp hp with h1 | h1
  · exact N' p h1
  · exact hkeep p h1 fun _ h => nomatch h

theorem spec_use1 {Ret : Value → Obj → Led → Prop} {l : Addr} {o : Obj} {gl : Obj → Led} (S : Spec1 w f vs l o rd Ret Exc d u)
    (B : Below A₀ base outer h₀) (F : Fr h₀ L s.heap m) (X : (KK w).In h₀) (N : News h₀ L s.heap led) (T : Top topProg loose mean mg mb h₀)
    (hA : A.frames = some (env :: outer)) (hh : A.handled = none) (hf : env.frame = some L) (hke : env.scope.kind = .function)
    (U : UpdF l o led gl) (hsub : SubL rd led) (hd : A.depth + d < recursionLimit) (hu : A.units + u < cLine)
    (ret : ∀ v o' new h' tk', Fr h₀ L h' m → News h₀ L h' (new ++ gl o') → (∀ p ∈ new, ∀ q ∈ led, q.1 ≠ p.1) → Ret v o' new → Q v { s with heap := h', toks := tk' })
    (exc : ∀ e g h' tk', Fr h₀ L g m → (∀ q ∈ led, (∀ p ∈ (l, o) :: rd, q.1 ≠ p.1) → g.get? q.1 = some q.2) → RaisedSN base g (env :: outer) e (.ref 52) [] h' → g.UpToSlots h' → Exc → E (.ref e) { s with heap := h', toks := tk' }) :
    wpAny (model PR w) A (call (.ref f) vs) Q E s := by
  obtain ⟨own, rest, e1, e2, h1, h2⟩ := U.split
  refine spec_useG S B F X N T hA hh hf hke (fun p hp => ?_) hd hu ?_ exc
  · rcases List.mem_append.mp hp with h | h
    · rw [List.mem_singleton.mp h, e1]; exact List.mem_append_right _ (.head _)
    · exact hsub.mem p h
  rintro v upd new h' tk' F' N' hkeep hne ⟨o', rfl, hR⟩
  refine ret v o' new h' tk' F' (fun p hp => ?_) hne hR
  rcases List.mem_append.mp hp with h | h
  · exact N' p (List.mem_append_right _ h)
  · rw [e2] at h
    rcases List.mem_append.mp h with h | h
    · exact hkeep p (by rw [e1]; exact List.mem_append_left _ h) fun q hq => by rw [List.mem_singleton.mp hq]; exact h1 p h
    · rcases List.mem_cons.mp h with rfl | h
      · exact N' _ (.head _)
      · exact hkeep p (by rw [e1]; exact List.mem_append_right _ (.tail _ h)) fun q hq => by rw [List.mem_singleton.mp hq]; exact h2 p h
end

section
variable {prog : Program} {w : World} {dp un : Nat} {gd : Option (List Code)} {envs : List Env} {g : Heap} {s : Shared} {pre : Led} {K : Frag} {R : Result → Shared → Prop}
  {name qual : Str} {params : Arguments} {body : List Stmt} {scope : Scope} {dV kV doc pm cdv ct oc : Value} {an od : Option Addr} {osl : Array (Option Value)} {f : Addr} {args : Args} {binds : List (Str × Value)}
  {p : Program} {loose : List Str} {mean : ExcName → Option Value} {mg mb : Str → Option Value}
theorem code_sep (X : K.In g := by assumption) (T : Top p loose mean mg mb g := by assumption) (hk : ∀ b o, g.get? b = some o → s.heap.get? b = some o := by assumption) (hsz : Grown g s.heap := by assumption)
    (hp : ∀ p ∈ pre, s.heap.get? p.1 = some p.2 ∧ g.get? p.1 = none := by assumption)
    (ho : K.lookup f = some ⟨oc, od, .func (fnOf name qual params body scope dV kV doc pm an cdv ct), osl⟩ := by k_is) (hcd : codeIn K cdv qual = true := by k_is) (hroom : dp < recursionLimit := by exact room_0 (by assumption))
    (hbind : BindsTo s (fnOf name qual params body scope dV kV doc pm an cdv ct) args binds := by first | exact BindsTo.of_eq rfl | exact binds_K (Frag.In.keeps (by assumption) (by assumption)) rfl (by k_is) rfl rfl rfl) (hloc : ∀ y ∈ binds, scope.names.lookup y.1 = some .local := by exact locs rfl)
    (h : ∀ L' h₁ tk, let mp := fun y => binds.reverse.lookup y
      Fr g L' h₁ mp → News g L' h₁ pre →
      let ev := envOf qual scope L' f cdv
      let Ar := (arX dp un gd envs).deeper ev
      let Mo := model prog w
      wpAny Mo Ar (execs body ev)
        (fun fl s' => R (.ok (.ret (match fl with | .ret v => v | _ => .none))) s')
        (fun e s' => wpAny Mo Ar (leaving ev e) (fun _ s'' => R (.error e) s'') (fun e' s'' => R (.error e') s'') s')
        { s with heap := h₁, toks := tk })
    (hco : scope.isCoroutine = false := by exact rfl) (hgen : scope.isGenerator = false := by exact rfl) (hkd : scope.kind = .function := by exact rfl)
    (hcell : ∀ x ∈ scope.names, x.2 ≠ .cell := by decide) : codeAny (model prog w) (arX dp un gd envs) (.call (.ref f) args) R s := by
  refine codeAny_call_def (fd := fnOf name qual params body scope dV kV doc pm an cdv ct) (body := body) (binds := binds) hroom (hk _ _ (X _ _ ho)) rfl (T.nolimit.keeps hk) (codeRec_of (X.keeps hk) hcd) rfl hbind hcell hloc (fun h₁ hns hk₁ => ?_) hco hgen hkd
  exact h _ h₁ _ ⟨hns, fun b o e => hk₁ b o (hk b o e), hsz⟩ (fun p hp' => ⟨hk₁ _ _ (hp p hp').1, Nat.ne_of_lt (Heap.lt_size (hp p hp').1), (hp p hp').2⟩)
end

theorem out_news {g h : Heap} {L : Addr} {led led' : Led} (N : News g L h led) (hs : ∀ p ∈ led', p ∈ led) : ∀ p ∈ led', h.get? p.1 = some p.2 ∧ g.get? p.1 = none :=
  fun p hp => ⟨(N p (hs p hp)).1, (N p (hs p hp)).2.2⟩

/-- an exception of class 52, just made -/
def NewSE (h h' : Heap) (e : Addr) : Prop :=
  (∀ b o, h.get? b = some o → h'.get? b = some o) ∧ h.get? e = none ∧ ∃ oe vs a0, h'.get? e = some oe ∧ oe.cls = .ref 52 ∧ oe.data = .fields vs ∧ vs[1]? = some .none ∧ vs[0]? = some a0

section
variable {M : Model} {A : Around} {E : Value → Shared → Prop} {s' : Shared} {base g h : Heap} {outer : List Env} {L a e : Addr} {m : Str → Option Value} {name : Str} {scope : Scope} {cd : Value} {Q : Unit → Shared → Prop}
theorem leave_newX (K : Below A base outer g := by assumption) (hx : NewSE h s'.heap e := by assumption) (F : Fr g L h m := by k_asm)
    (hQ : ∀ h', RaisedSN base g outer e (.ref 52) [] h' → g.UpToSlots h' → Q () { s' with heap := h' }) (hk : scope.kind = .function := by rfl) :
    wpAny M (A.deeper (envOf name scope L a cd)) (leaving (envOf name scope L a cd) (.ref e)) Q E s' := by
  obtain ⟨hkeep, hnew, oe, vs, a0, he, hc, hd, h1, h0⟩ := hx
  have K' := K.push (name := name) (a := a) (cd := cd) F hk
  let fs := (envOf name scope L a cd :: outer).filterMap (·.frame)
  have inFs : ∀ env ∈ (envOf name scope L a cd :: outer), ∀ b, env.frame = some b → b ∈ fs := fun env he b hb => List.mem_filterMap.mpr ⟨env, he, hb⟩
  have baseIn : base.StaysIn (hideAll h fs) := fun b o q => hideAll_get _ (K'.stays b o q) fun hm => by
    have z := (K'.frames.mem hm).1
    rw [q] at z; cases z
  have gIn : ∀ b o, g.get? b = some o → b ∉ outer.filterMap (·.frame) → (hideAll h fs).get? b = some o := fun b o q nm => hideAll_get _ (F.keep b o q) fun hm => by
    rcases kts_mem hm with z | z
    · rw [z, kts_self F] at q; cases q
    · exact nm z
  have eNew : (hideAll h fs).get? e = none := by
    cases q : (hideAll h fs).get? e with
    | none => rfl
    | some o => have z := of_hideAll _ q; rw [hnew] at z; cases z
  refine wpAny_leaving_firstW (a0 := a0) K'.stack ((funFrames_hide K'.frames inFs).of_keeps fun b o hb _ => ⟨o, hkeep b o hb, rfl⟩) rfl he (fun b o hb => hkeep b o (of_hideAll _ hb)) eNew hd h1 h0 fun h' hL => ?_
  obtain ⟨k1, ⟨_, _, k2⟩, k3, k4⟩ := hL
  refine hQ h' ⟨hideAll h fs, a0, baseIn, gIn, (fun q hq => nomatch hq), k1, eNew, k2, ?_⟩ (((Heap.UpToSlots.of_keeps F.keep).trans (Heap.UpToSlots.of_keeps hkeep)).trans k4)
  rw [← hc]; exact k3
end

section
variable {prog : Program} {w : World} {A : Around} {E : Value → Shared → Prop} {s : Shared} {h₀ : Heap} {L : Addr} {led : Led}
theorem my_len {l : Addr} {vs : List Value} {n : Nat} {Q : Value → Shared → Prop} (h : Q (.int (vs.length : Nat) (s.toks + 1)) { s with toks := s.toks + 1 + 1 })
    (N : News h₀ L s.heap led := by k_asm) (hm : (l, listO vs n) ∈ led := by k_mem) (hf : vs.length < 2 ^ 62 := by omega) : wpAny (model prog w) A (call (.builtin "len") [.ref l]) Q E s :=
  PyProof.Rows.len_list (N.isList hm) (by simp only [List.size_toArray]; omega) (by simpa using h)
theorem my_pick {value slice : PySem.Expr} {l : Addr} {vs : List Value} {n : Nat} {k : Int} {u : Tok} {Q : Value → Shared → Prop} (N : News h₀ L s.heap led) (hm : (l, listO vs n) ∈ led)
    (h0 : 0 ≤ k) (h1 : k < vs.length) (hf : vs.length < 2 ^ 62) (h : ∀ v, v ∈ vs → Q v s)
    (hs : subscripted slice false (.ref l) (.int k u) = operate [.ref l, .int k u] (getItem (.ref l) (.int k u)) := by with_unfolding_all rfl) :
    wpAny (model prog w) A (subscriptTail value slice (.ref l) (.int k u)) Q E s := by
  have hl := N.isList hm
  have hk : k.toNat < vs.length := by omega
  exact tail_any hl.typeIs slot_list_getitem.lookup (wpAny_getItem_list hl h0 (by omega) (x := vs[k.toNat]) (by simp [hk]) (h _ (List.getElem_mem hk))) hs
end
local macro_rules | `(tactic| walk_at "call builtin:len") => `(tactic| (k_here; k_dflt refine my_len ?_; k_whole))

theorem at_call (n : Addr) {M : Model} {A : Around} {E : Value → Shared → Prop} {Q : Value → Shared → Prop} {s : Shared} {args : List Value} {kw : List (Str × Value)} (h : wpAny M A (call (.ref n) args kw) Q E s) : wpAny M A (call (.ref n) args kw) Q E s := h
theorem at_sub (i : Int) {M : Model} {A : Around} {E : Value → Shared → Prop} {Q : Value → Shared → Prop} {s : Shared} {v sl : PySem.Expr} {a : Addr} {u : Tok} (h : wpAny M A (subscriptTail v sl (.ref a) (.int i u)) Q E s) : wpAny M A (subscriptTail v sl (.ref a) (.int i u)) Q E s := h
/-! the calls' lines: what comes back is put in place -/
section
variable {w : World} {f : Addr} {vs : List Value} {rd led : Led} {d u : Nat} {A₀ A : Around} {base h₀ : Heap} {outer : List Env} {L : Addr} {m : Str → Option Value} {env : Env} {s : Shared} {Q E : Value → Shared → Prop}
  {loose : List Str} {mean : ExcName → Option Value} {mg mb : Str → Option Value} {l : Addr} {o : Obj} {gl : Obj → Led}
theorem useS {r : Tok → Value} (S : Spec0 w f vs rd (fun v new => (∃ t, v = r t) ∧ new = []) False d u)
  (ret : ∀ t h' tk', Fr h₀ L h' m → News h₀ L h' led → Q (r t) { s with heap := h', toks := tk' })
  (F : Fr h₀ L s.heap m := by k_asm) (N : News h₀ L s.heap led := by k_asm) (B : Below A₀ base outer h₀ := by k_asm) (X : (KK w).In h₀ := by k_asm) (T : Top topProg loose mean mg mb h₀ := by k_asm)
  (hA : A.frames = some (env :: outer) := by rfl) (hh : A.handled = none := by rfl) (hf : env.frame = some L := by rfl) (hke : env.scope.kind = .function := by rfl)
  (hsub : SubL rd led := by k_subL) (hd : A.depth + d < recursionLimit := by k_room) (hu : A.units + u < cLine := by k_room) : wpAny (model PR w) A (call (.ref f) vs) Q E s :=
  spec_use0 S B F X N T hA hh hf hke hsub hd hu (fun _ _ h' tk' F' N' _ ⟨⟨t, e1⟩, e2⟩ => by subst e1 e2; exact ret t h' tk' F' N') (fun _ _ _ _ _ _ _ _ h => h.elim)
theorem useV {r : Value} (S : Spec0 w f vs rd (fun v new => v = r ∧ new = []) False d u)
  (ret : ∀ h' tk', Fr h₀ L h' m → News h₀ L h' led → Q r { s with heap := h', toks := tk' })
  (F : Fr h₀ L s.heap m := by k_asm) (N : News h₀ L s.heap led := by k_asm) (B : Below A₀ base outer h₀ := by k_asm) (X : (KK w).In h₀ := by k_asm) (T : Top topProg loose mean mg mb h₀ := by k_asm)
  (hA : A.frames = some (env :: outer) := by rfl) (hh : A.handled = none := by rfl) (hf : env.frame = some L := by rfl) (hke : env.scope.kind = .function := by rfl)
  (hsub : SubL rd led := by k_subL) (hd : A.depth + d < recursionLimit := by k_room) (hu : A.units + u < cLine := by k_room) : wpAny (model PR w) A (call (.ref f) vs) Q E s :=
  spec_use0 S B F X N T hA hh hf hke hsub hd hu (fun _ _ h' tk' F' N' _ ⟨e1, e2⟩ => by subst e1 e2; exact ret h' tk' F' N') (fun _ _ _ _ _ _ _ _ h => h.elim)
theorem useN {P : List Value → Prop} (S : Spec0 w f vs rd (fun v new => ∃ vs l, v = .ref l ∧ new = [(l, tupO vs)] ∧ P vs) False d u)
  (ret : ∀ vs l h' tk', Fr h₀ L h' m → News h₀ L h' ((l, tupO vs) :: led) → P vs → Q (.ref l) { s with heap := h', toks := tk' })
  (F : Fr h₀ L s.heap m := by k_asm) (N : News h₀ L s.heap led := by k_asm) (B : Below A₀ base outer h₀ := by k_asm) (X : (KK w).In h₀ := by k_asm) (T : Top topProg loose mean mg mb h₀ := by k_asm)
  (hA : A.frames = some (env :: outer) := by rfl) (hh : A.handled = none := by rfl) (hf : env.frame = some L := by rfl) (hke : env.scope.kind = .function := by rfl)
  (hsub : SubL rd led := by k_subL) (hd : A.depth + d < recursionLimit := by k_room) (hu : A.units + u < cLine := by k_room) : wpAny (model PR w) A (call (.ref f) vs) Q E s :=
  spec_use0 S B F X N T hA hh hf hke hsub hd hu (fun _ _ h' tk' F' N' _ ⟨vs, l, e1, e2, p⟩ => by subst e1 e2; exact ret vs l h' tk' F' N' p) (fun _ _ _ _ _ _ _ _ h => h.elim)
theorem useR {r : Tok → Tok → List Value} (S : Spec0 w f vs rd (fun v new => ∃ l t1 t2, v = .ref l ∧ new = [(l, tupO (r t1 t2))]) False d u)
  (ret : ∀ l t1 t2 h' tk', Fr h₀ L h' m → News h₀ L h' ((l, tupO (r t1 t2)) :: led) → (∀ q ∈ led, @Ne Nat q.1 l) → Q (.ref l) { s with heap := h', toks := tk' })
  (F : Fr h₀ L s.heap m := by k_asm) (N : News h₀ L s.heap led := by k_asm) (B : Below A₀ base outer h₀ := by k_asm) (X : (KK w).In h₀ := by k_asm) (T : Top topProg loose mean mg mb h₀ := by k_asm)
  (hA : A.frames = some (env :: outer) := by rfl) (hh : A.handled = none := by rfl) (hf : env.frame = some L := by rfl) (hke : env.scope.kind = .function := by rfl)
  (hsub : SubL rd led := by k_subL) (hd : A.depth + d < recursionLimit := by k_room) (hu : A.units + u < cLine := by k_room) : wpAny (model PR w) A (call (.ref f) vs) Q E s :=
  spec_use0 S B F X N T hA hh hf hke hsub hd hu (fun _ _ h' tk' F' N' hn ⟨l, t1, t2, e1, e2⟩ => by subst e1 e2; exact ret l t1 t2 h' tk' F' N' (hn _ (.head _))) (fun _ _ _ _ _ _ _ _ h => h.elim)
theorem use1V {r : Value} {P : Obj → Prop} (S : Spec1 w f vs l o rd (fun v o' new => v = r ∧ P o' ∧ new = []) False d u)
  (ret : ∀ o' h' tk', Fr h₀ L h' m → News h₀ L h' (gl o') → P o' → Q r { s with heap := h', toks := tk' })
  (F : Fr h₀ L s.heap m := by k_asm) (N : News h₀ L s.heap led := by k_asm) (B : Below A₀ base outer h₀ := by k_asm) (X : (KK w).In h₀ := by k_asm) (T : Top topProg loose mean mg mb h₀ := by k_asm)
  (hA : A.frames = some (env :: outer) := by rfl) (hh : A.handled = none := by rfl) (hf : env.frame = some L := by rfl) (hke : env.scope.kind = .function := by rfl)
  (U : UpdF l o led gl := by k_updF) (hsub : SubL rd led := by k_subL) (hd : A.depth + d < recursionLimit := by k_room) (hu : A.units + u < cLine := by k_room) : wpAny (model PR w) A (call (.ref f) vs) Q E s :=
  spec_use1 S B F X N T hA hh hf hke U hsub hd hu (fun _ o' _ h' tk' F' N' _ ⟨e1, p, e2⟩ => by subst e1 e2; exact ret o' h' tk' F' N' p) (fun _ _ _ _ _ _ _ _ h => h.elim)
theorem use1C {α : Type} {c : α → Tok → Value} {R : α → Prop} {P : Obj → Prop} (S : Spec1 w f vs l o rd (fun v o' new => (∃ (n : α) (t : Tok), v = c n t ∧ R n) ∧ P o' ∧ new = []) False d u)
  (ret : ∀ n t o' h' tk', Fr h₀ L h' m → News h₀ L h' (gl o') → R n → P o' → Q (c n t) { s with heap := h', toks := tk' })
  (F : Fr h₀ L s.heap m := by k_asm) (N : News h₀ L s.heap led := by k_asm) (B : Below A₀ base outer h₀ := by k_asm) (X : (KK w).In h₀ := by k_asm) (T : Top topProg loose mean mg mb h₀ := by k_asm)
  (hA : A.frames = some (env :: outer) := by rfl) (hh : A.handled = none := by rfl) (hf : env.frame = some L := by rfl) (hke : env.scope.kind = .function := by rfl)
  (U : UpdF l o led gl := by k_updF) (hsub : SubL rd led := by k_subL) (hd : A.depth + d < recursionLimit := by k_room) (hu : A.units + u < cLine := by k_room) : wpAny (model PR w) A (call (.ref f) vs) Q E s :=
  spec_use1 S B F X N T hA hh hf hke U hsub hd hu (fun _ o' _ h' tk' F' N' _ ⟨⟨n, t, e1, q⟩, p, e2⟩ => by subst e1 e2; exact ret n t o' h' tk' F' N' q p) (fun _ _ _ _ _ _ _ _ h => h.elim)
end

-- the head of a contract's proof, behind its intro
-- an address told apart from another: the fact itself, before any arithmetic
def OffAll (led : Led) (l : Addr) : Prop := ∀ q ∈ led, @Ne Nat q.1 l
theorem offAt {led : Led} {l a : Addr} {o : Obj} (h : OffAll led l) (hm : (a, o) ∈ led) : @Ne Nat a l := h _ hm
theorem offAt' {led : Led} {l a : Addr} {o : Obj} (h : OffAll led l) (hm : (a, o) ∈ led) : @Ne Nat l a := Ne.symm (h _ hm)
local macro_rules | `(tactic| k_ne) => `(tactic| first | with_reducible assumption | (refine Ne.symm ?_; with_reducible assumption) | exact offAt (by with_reducible assumption) (by k_mem) | exact offAt' (by with_reducible assumption) (by k_mem) | (refine neN ?_; (try dsimp only); omega))
local macro_rules | `(tactic| units_room) => `(tactic| first | exact room_k (by assumption) (by first | decide | omega) | exact room_k2 (by assumption) (by first | decide | omega) | exact room_1 (by assumption) (by first | decide | omega) | exact room_k3 (by assumption) (by first | decide | omega))
local macro_rules | `(tactic| k_room) => `(tactic| units_room)
theorem fresh_C1 : True := by (w_top off); trivial
def IsSrc (o : Obj) : Prop := ∃ x y t1 t2 n, o = listO [.int x t1, .int y t2] n ∧ 0 ≤ x ∧ 0 ≤ y ∧ y < 2147483647

theorem small_fmod (a : Int) : Builtin.Int.intBits (a.fmod 2147483647) ≤ 64 :=
  PySem.intBits_le_64 (by have := Int.fmod_nonneg_of_pos a (b := 2147483647) (by decide); omega) (by have := Int.fmod_lt_of_pos a (b := 2147483647) (by decide); omega)
local macro_rules | `(tactic| mul_fits) => `(tactic| (with_unfolding_all exact IntMulOk.of_right (small_fmod _)))

abbrev takeRet (top : Int) (v : Value) (o' : Obj) (new : Led) : Prop := ∃ d t, v = .int d t ∧ 0 ≤ d ∧ d < top ∧ IsSrc o' ∧ new = []
theorem take_ok (w : World) (l : Addr) (o : Obj) (top : Int) (t3 : Tok) (ho : IsSrc o) (ht : 0 < top) (ht2 : top ≤ 5000) :
    Spec1 w 132 [.ref l, .int top t3] l o [] (takeRet top) False 3 40 := by
  obtain ⟨x, y, t1, t2, n, rfl, hx, hy, hy2⟩ := ho
  unfold Spec1 SpecG KK PR
  k_fill
  intro loose mean mg mb dp un gd envs base g s R B X T hk hsz hp hd hu hret hexc
  (k_dflt refine code_sep (h := ?_)); k_whole; intro L' h' tk' mp F' N'; (try dsimp only [List.nil_append, List.cons_append] at N'); intro ev Ar Mo; (try dsimp only); (try k_fold)
  k_steps
  all_goals (try dsimp only)
  all_goals (try (k_unfold; (try dsimp only)))
  · refine hret _ [_] [] _ _ (Fr.keep (by assumption)) (out_news (by assumption) (fun _ h => h)) (fun _ h => nomatch h) ⟨_, rfl, _, _, rfl, ?_, ?_, ?_, rfl⟩
    · exact Int.fmod_nonneg_of_pos _ ht
    · exact Int.fmod_lt_of_pos _ ht
    · refine ⟨_, _, _, _, _, rfl, ?_, hy, hy2⟩
      show 0 ≤ x.fdiv top
      rw [Int.fdiv_eq_ediv_of_nonneg _ (by omega)]
      exact Int.ediv_nonneg hx (by omega)
  · refine hret _ [_] [] _ _ (Fr.keep (by assumption)) (out_news (by assumption) (fun _ h => h)) (fun _ h => nomatch h) ⟨_, rfl, _, _, rfl, ?_, ?_, ?_, rfl⟩
    · exact Int.fmod_nonneg_of_pos _ ht
    · exact Int.fmod_lt_of_pos _ ht
    · refine ⟨_, _, _, _, _, rfl, hx, ?_, ?_⟩
      · exact Int.fmod_nonneg_of_pos _ (by decide)
      · exact Int.fmod_lt_of_pos _ (by decide)

section
variable {w : World} {f : Addr} {vs : List Value} {rd led : Led} {d u : Nat} {A₀ A : Around} {base h₀ : Heap} {outer : List Env} {L : Addr} {m : Str → Option Value} {env : Env} {s : Shared} {Q E : Value → Shared → Prop}
  {loose : List Str} {mean : ExcName → Option Value} {mg mb : Str → Option Value} {l : Addr} {o : Obj} {gl : Obj → Led}
theorem useT {top : Int} (S : Spec1 w f vs l o rd (takeRet top) False d u)
  (ret : ∀ d t o' h' tk', Fr h₀ L h' m → News h₀ L h' (gl o') → 0 ≤ d → d < top → IsSrc o' → Q (.int d t) { s with heap := h', toks := tk' })
  (F : Fr h₀ L s.heap m := by k_asm) (N : News h₀ L s.heap led := by k_asm) (B : Below A₀ base outer h₀ := by k_asm) (X : (KK w).In h₀ := by k_asm) (T : Top topProg loose mean mg mb h₀ := by k_asm)
  (hA : A.frames = some (env :: outer) := by rfl) (hh : A.handled = none := by rfl) (hf : env.frame = some L := by rfl) (hke : env.scope.kind = .function := by rfl)
  (U : UpdF l o led gl := by k_updF) (hsub : SubL rd led := by k_subL) (hd : A.depth + d < recursionLimit := by k_room) (hu : A.units + u < cLine := by k_room) : wpAny (model PR w) A (call (.ref f) vs) Q E s :=
  spec_use1 S B F X N T hA hh hf hke U hsub hd hu (fun _ o' _ h' tk' F' N' _ ⟨d, t, e1, p, q, r, e2⟩ => by subst e1 e2; exact ret d t o' h' tk' F' N' p q r) (fun _ _ _ _ _ _ _ _ h => h.elim)
end
-- a call of _law_take
section
variable {w : World} {A₀ A : Around} {base h₀ : Heap} {outer : List Env} {L : Addr} {m : Str → Option Value} {env : Env} {s : Shared} {Q E : Value → Shared → Prop}
  {loose : List Str} {mean : ExcName → Option Value} {mg mb : Str → Option Value} {led : Led} {gl : Obj → Led}
theorem call132 {l : Addr} {o : Obj} {top : Int} {t3 : Tok}
  (ret : ∀ d t o' h' tk', Fr h₀ L h' m → News h₀ L h' (gl o') → 0 ≤ d → d < top → IsSrc o' → Q (.int d t) { s with heap := h', toks := tk' })
  (F : Fr h₀ L s.heap m := by k_asm) (N : News h₀ L s.heap led := by k_asm) (B : Below A₀ base outer h₀ := by k_asm) (X : (KK w).In h₀ := by k_asm) (T : Top topProg loose mean mg mb h₀ := by k_asm)
  (hA : A.frames = some (env :: outer) := by rfl) (hh : A.handled = none := by rfl) (hf : env.frame = some L := by rfl) (hke : env.scope.kind = .function := by rfl) (ho : IsSrc o := by assumption) (U : UpdF l o led gl := by k_updF) (hsub : SubL [] led := by k_subL) (hd : A.depth + 3 < recursionLimit := by k_room) (hu : A.units + 40 < cLine := by k_room) (ht : 0 < top := by first | decide | omega | l_fact) (ht2 : top ≤ 5000 := by first | decide | omega | l_fact) : wpAny (model PR w) A (call (.ref 132) [.ref l, .int top t3]) Q E s :=
  useT (take_ok w l o top t3 ho ht ht2) ret F N B X T hA hh hf hke U hsub hd hu
end
local macro_rules | `(tactic| walk_at "call ref") => `(tactic| (k_here; k_dflt refine call132 ?_; intros; k_sweep))

theorem one_ok (w : World) (l th : Addr) (o : Obj) (vs : List Value) (n : Nat) (ho : IsSrc o) (ht : vs ≠ []) (hn : vs.length ≤ 5000) (hne : th ≠ l) :
    Spec1 w 139 [.ref l, .ref th] l o [(th, listO vs n)] (fun v o' new => v ∈ vs ∧ IsSrc o' ∧ new = []) False 5 50 := by
  have hpos : 0 < vs.length := List.length_pos_iff.mpr ht
  unfold Spec1 SpecG KK PR
  k_fill
  intro loose mean mg mb dp un gd envs base g s R B X T hk hsz hp hd hu hret hexc
  (k_dflt refine code_sep (h := ?_)); k_whole; intro L' h' tk' mp F' N'; (try dsimp only [List.nil_append, List.cons_append] at N'); intro ev Ar Mo; (try dsimp only); (try k_fold)
  k_steps
  skip
  refine my_pick (by assumption) (.tail _ (.head _)) (by assumption) (by assumption) (by omega) fun v hv => ?_
  k_unfold
  dsimp only
  exact hret v [(l, _)] [] _ _ (Fr.keep (by assumption)) (out_news (by assumption) (fun _ h => h)) (fun _ h => nomatch h) ⟨_, rfl, hv, by assumption, rfl⟩
/-- a source that a comprehension walks: its iterator is one new object -/
structure Walkt (prog : Program) (w : World) (A : Around) (E : Value → Shared → Prop) (h₀ : Heap) (L : Addr) (xv : Value) (s₁ : Shared) (n : Nat) (P : Nat → Value → Prop) (S : Led → Prop) : Prop where
  ex : ∃ (o : Obj) (fp : List Addr) (St : Nat → Heap → Prop),
    (∀ Q : Value → Shared → Prop, Q (.ref s₁.heap.objs.size) { s₁ with heap := s₁.heap.push o } → wpAny (model prog w) A (pyIter xv) Q E s₁) ∧
    Walks prog w A s₁.heap.objs.size fp [s₁.heap.objs.size] n P St ∧ St 0 (s₁.heap.push o) ∧ (∀ b ∈ fp, b < (s₁.heap.push o).objs.size) ∧
    (∀ i h, St i h → ∃ o, h.get? s₁.heap.objs.size = some o) ∧
    (∀ i h h' o nw, St i h → h.get? s₁.heap.objs.size = some o → h'.get? s₁.heap.objs.size = some o → (∀ b o, h₀.get? b = some o → h'.get? b = some o) → News h₀ L h' nw → S nw → St i h')

theorem walkt_str {prog : Program} {w : World} {A : Around} {E : Value → Shared → Prop} {h₀ : Heap} {L : Addr} {x : Str} {t : Tok} {s₁ : Shared} (hh : A.handled = none) :
    Walkt prog w A E h₀ L (.str x t) s₁ x.cps.size (SignAt x) (fun _ => True) := by
  constructor
  have same : ∀ (ty : String) i (h h' : Heap) (o : Obj), h.IsStrIter s₁.heap.objs.size ty x t i → h.get? s₁.heap.objs.size = some o → h'.get? s₁.heap.objs.size = some o → h'.IsStrIter s₁.heap.objs.size ty x t i :=
    fun ty i h h' o st e e' => by
      obtain ⟨o', q, r⟩ := st
      rw [e] at q; cases q
      exact ⟨o, e', r⟩
  have szs : ∀ (o : Obj), ∀ b ∈ [s₁.heap.objs.size], b < (s₁.heap.push o).objs.size := fun o b hb => by
    rw [List.mem_singleton.mp hb, Heap.size_push]; exact Nat.lt_succ_self _
  cases ha : x.cps.all (· < 128)
  · exact ⟨_, _, _, fun Q hQ => wpAny_pyIter_wide ha hQ, Walks.strWide hh _ x t, ⟨_, Heap.get?_push_size _ rfl, rfl, rfl⟩, szs _, fun i h st => let ⟨o, e, _⟩ := st; ⟨o, e⟩, fun i h h' o nw st e e' _ _ _ => same _ i h h' o st e e'⟩
  · exact ⟨_, _, _, fun Q hQ => wpAny_pyIter_ascii ha hQ, Walks.strAscii hh _ x t, ⟨_, Heap.get?_push_size _ rfl, rfl, rfl⟩, szs _, fun i h st => let ⟨o, e, _⟩ := st; ⟨o, e⟩, fun i h h' o nw st e e' _ _ _ => same _ i h h' o st e e'⟩

theorem walkt_tup {prog : Program} {w : World} {A : Around} {E : Value → Shared → Prop} {h₀ : Heap} {L : Addr} {l : Addr} {vs : List Value} {led : Led} {s₁ : Shared} (hh : A.handled = none) (N : News h₀ L s₁.heap led) (hm : (l, tupO vs) ∈ led) :
    Walkt prog w A E h₀ L (.ref l) s₁ vs.length (fun i v => vs[i]? = some v) (fun nw => (l, tupO vs) ∈ nw) := by
  constructor
  have hl := (N _ hm).1
  have hlt : l < s₁.heap.objs.size := Heap.lt_size hl
  have ht : s₁.heap.IsTuple l vs.toArray := ⟨_, hl, rfl, _, rfl⟩
  have W : Walks prog w A s₁.heap.objs.size [s₁.heap.objs.size, l] [s₁.heap.objs.size] vs.length (fun i v => vs[i]? = some v) (fun i h => h.IsTupleIter s₁.heap.objs.size l i ∧ h.IsTuple l vs.toArray) := by
    have W := Walks.tuple (prog := prog) (w := w) hh s₁.heap.objs.size l (Nat.ne_of_lt hlt) vs.toArray
    have e : (fun (i : Nat) (v : Value) => vs.toArray[i]? = some v) = fun i v => vs[i]? = some v := by funext i v; simp
    rw [e] at W
    exact W
  refine ⟨_, _, _, fun Q hQ => wpAny_pyIter_tuple ht hQ, W, ⟨⟨_, Heap.get?_push_size _ rfl, rfl, rfl⟩, ⟨_, Heap.get?_push_of_some _ hl, rfl, _, rfl⟩⟩, ?_, fun i h st => let ⟨⟨o, e, _⟩, _⟩ := st; ⟨o, e⟩, ?_⟩
  · intro b hb
    rw [Heap.size_push]
    simp only [List.mem_cons, List.not_mem_nil, or_false] at hb
    rcases hb with rfl | rfl
    · exact Nat.lt_succ_self _
    · exact Nat.lt_succ_of_lt hlt
  · intro i h h' o nw st e e' _ N' hS
    refine ⟨?_, ⟨_, (N' _ hS).1, rfl, _, rfl⟩⟩
    obtain ⟨o', q, r⟩ := st.1
    rw [e] at q; cases q
    exact ⟨o, e', r⟩

section
variable {prog : Program} {w : World} {A : Around} {E : Value → Shared → Prop} {s : Shared} {h₀ : Heap} {L : Addr} {m : Str → Option Value} {env : Env}

def CompT (prog : Program) (w : World) (A : Around) (E : Value → Shared → Prop) (h₀ : Heap) (L : Addr) (m : Str → Option Value) (env : Env) (ct elt : Expr) (x : Str) (scope : Scope) (cl : List (Str × Addr)) (Q : Value → Shared → Prop) (xv : Value) (s₁ : Shared) : Prop :=
  ∃ n P S news, Walkt prog w A E h₀ L xv s₁ n P S ∧ n ≤ sizeLine ∧ Fr h₀ L s₁.heap m ∧ News h₀ L s₁.heap news ∧ S news ∧
    ∀ g : Heap, CompRestT prog w A h₀ L m env ct elt x scope cl { s₁ with heap := g } S P (FinE h₀ L m { s₁ with heap := g } Q) n 0 [] news
def CompU (prog : Program) (w : World) (A : Around) (E : Value → Shared → Prop) (h₀ : Heap) (L : Addr) (m : Str → Option Value) (env : Env) (elt : Expr) (x : Str) (scope : Scope) (cl : List (Str × Addr)) (Q : Value → Shared → Prop) (xv : Value) (s₁ : Shared) : Prop :=
  ∃ n P S news, Walkt prog w A E h₀ L xv s₁ n P S ∧ n ≤ sizeLine ∧ Fr h₀ L s₁.heap m ∧ News h₀ L s₁.heap news ∧ S news ∧
    ∀ g : Heap, CompRest prog w A h₀ L m env elt x scope cl { s₁ with heap := g } S P (FinE h₀ L m { s₁ with heap := g } Q) n 0 [] news

theorem comp_T {ct elt iter : Expr} {x : Str} {px : Pos} {scope : Scope} {cl : List (Str × Addr)} {pos : Pos} {Q : Value → Shared → Prop} (F₀ : Fr h₀ L s.heap m)
    (hclos : closureFor scope env = pure cl) (hcell : ∀ y ∈ scope.names, y.2 ≠ .cell) (hkind : scope.kind = .function)
    (hnames : ∀ y ∈ scope.names, y.2 = .local → scope.names.lookup y.1 = some .local) (hx : scope.names.lookup x = some .local)
    (h : wpAny (model prog w) A (eval iter env) (CompT prog w A E h₀ L m env ct elt x scope cl Q) E s)
    (hs : ∀ x, foldedSetIterable iter env x = pure x := by intro _; rfl) :
    wpAny (model prog w) A (eval (.ListComp elt [⟨.Name x px, iter, [ct], 0⟩] scope pos) env) Q E s := by
  rw [eval_ListComp]
  refine wpAny_comprehension_free (use := none) rfl hs hclos hkind hnames (wpAny_mono h (fun xv s₁ h₁ => ?_) fun _ _ e => e)
  obtain ⟨n, P, S, news, ⟨o, fp, St, hit, W, hst, hfp, hIo, hSt⟩, hsz, F, N, hS, R⟩ := h₁
  refine hit _ ?_
  have up : ∀ b o', s₁.heap.get? b = some o' → (s₁.heap.push o).get? b = some o' := fun b o' e => Heap.get?_push_of_some _ e
  refine block_T (s₂ := { s₁ with heap := s₁.heap.push o }) W hsz hIo hSt hcell hkind hx hst hfp (F.keeps up) (N.grown up) (Nat.ne_of_lt F.ns.lt) (next_is_new F) (fun p hp => Nat.ne_of_lt (Heap.lt_size (N p hp).1)) hS (R _) ?_
  intro D C h tk m' ys news' F' N' o1 hn hC₀ hD₀ hCL hDL hCD offC fin
  refine ⟨m', hn, fun h'' hs'' => fin D h'' tk (F'.change hs'' hCL hC₀) (fun p hp => ?_) o1⟩
  refine ⟨hs''.extBut _ _ ?_ (N' p hp).1, (N' p hp).2⟩
  rcases List.mem_cons.mp hp with rfl | hp
  · exact Ne.symm hCD
  · exact offC p hp
theorem comp_U {elt iter : Expr} {x : Str} {px : Pos} {scope : Scope} {cl : List (Str × Addr)} {pos : Pos} {Q : Value → Shared → Prop} (F₀ : Fr h₀ L s.heap m)
    (hclos : closureFor scope env = pure cl) (hcell : ∀ y ∈ scope.names, y.2 ≠ .cell) (hkind : scope.kind = .function)
    (hnames : ∀ y ∈ scope.names, y.2 = .local → scope.names.lookup y.1 = some .local) (hx : scope.names.lookup x = some .local)
    (h : wpAny (model prog w) A (eval iter env) (CompU prog w A E h₀ L m env elt x scope cl Q) E s)
    (hs : ∀ x, foldedSetIterable iter env x = pure x := by intro _; rfl) :
    wpAny (model prog w) A (eval (.ListComp elt [⟨.Name x px, iter, [], 0⟩] scope pos) env) Q E s := by
  rw [eval_ListComp]
  refine wpAny_comprehension_free (use := none) rfl hs hclos hkind hnames (wpAny_mono h (fun xv s₁ h₁ => ?_) fun _ _ e => e)
  obtain ⟨n, P, S, news, ⟨o, fp, St, hit, W, hst, hfp, hIo, hSt⟩, hsz, F, N, hS, R⟩ := h₁
  refine hit _ ?_
  have up : ∀ b o', s₁.heap.get? b = some o' → (s₁.heap.push o).get? b = some o' := fun b o' e => Heap.get?_push_of_some _ e
  refine block_U (s₂ := { s₁ with heap := s₁.heap.push o }) W hsz hIo hSt hcell hkind hx hst hfp (F.keeps up) (N.grown up) (Nat.ne_of_lt F.ns.lt) (next_is_new F) (fun p hp => Nat.ne_of_lt (Heap.lt_size (N p hp).1)) hS (R _) ?_
  intro D C h tk m' ys news' F' N' o1 hn hC₀ hD₀ hCL hDL hCD offC fin
  refine ⟨m', hn, fun h'' hs'' => fin D h'' tk (F'.change hs'' hCL hC₀) (fun p hp => ?_) o1⟩
  refine ⟨hs''.extBut _ _ ?_ (N' p hp).1, (N' p hp).2⟩
  rcases List.mem_cons.mp hp with rfl | hp
  · exact Ne.symm hCD
  · exact offC p hp

theorem CompEnd.imp {oI oC oD : Obj} {I C D : Addr} {S : Led → Prop} {r r' : Value → Led → Prop} {y : Value} {s₁ s₂ : Shared} (h : CompEnd h₀ L m s₁ I oI C oC D oD S r y s₂) (hr : ∀ y n, r y n → r' y n) : CompEnd h₀ L m s₁ I oI C oC D oD S r' y s₂ := by
  obtain ⟨h', tk, news', e, F, N, off, hS, z⟩ := h
  exact ⟨h', tk, news', e, F, N, off, hS, hr _ _ z⟩

theorem compT_ind {ct elt : Expr} {x : Str} {scope : Scope} {cl : List (Str × Addr)} {S : Led → Prop} {P : Nat → Value → Prop} {Fin : List Value → Led → Prop} {n : Nat} {news : Led} (Inv : Nat → List Value → Led → Prop) (h0 : Inv 0 [] news)
    (turn : ∀ i ys news v I oI C oC D m₂ h tk (E' : Value → Shared → Prop), i < n → Inv i ys news → P i v → NsObj oC m₂ → m₂ x = some v → Fr h₀ L h m → News h₀ L h ((I, oI) :: (C, oC) :: (D, lst ys) :: news) → Off3 I C D news → ((@Ne Nat I C) ∧ (@Ne Nat I D) ∧ (@Ne Nat C D)) →
      wpAny (model prog w) A (isTrue ct (compEnvC scope cl C env) (eval ct (compEnvC scope cl C env))) (fun ok s' => if ok = true then
        wpAny (model prog w) A (eval elt (compEnvC scope cl C env)) (CompEnd h₀ L m { s with heap := h, toks := tk } I oI C oC D (lst ys) S (fun y news' => Inv (i + 1) (ys ++ [y]) news')) E' s'
        else CompEnd h₀ L m { s with heap := h, toks := tk } I oI C oC D (lst ys) S (fun _ news' => Inv (i + 1) ys news') Value.none s') E' { s with heap := h, toks := tk })
    (fin : ∀ ys news, Inv n ys news → Fin ys news) : CompRestT prog w A h₀ L m env ct elt x scope cl s S P Fin n 0 [] news := by
  have key : ∀ k i ys news, k + i = n → Inv i ys news → CompRestT prog w A h₀ L m env ct elt x scope cl s S P Fin k i ys news := by
    intro k
    induction k with
    | zero =>
      intro i ys news e hI
      obtain rfl : i = n := by omega
      exact CompRestT.zero (fin ys news hI)
    | succ k ih =>
      intro i ys news e hI
      refine CompRestT.succ fun v I oI C oC D m₂ h tk E' hP hC hx F N off ne => ?_
      refine wpAny_mono (turn i ys news v I oI C oC D m₂ h tk E' (by omega) hI hP hC hx F N off ne) (fun ok s' z => ?_) fun _ _ z => z
      cases ok with
      | false =>
        simp only [Bool.false_eq_true, if_false] at z ⊢
        exact CompEnd.imp z fun y nw hi => ih (i + 1) ys nw (by omega) hi
      | true =>
        simp only [if_true] at z ⊢
        exact wpAny_mono z (fun y s'' z' => CompEnd.imp z' fun y nw hi => ih (i + 1) (ys ++ [y]) nw (by omega) hi) fun _ _ z => z
  exact key n 0 [] news (by omega) h0

theorem compU_ind {elt : Expr} {x : Str} {scope : Scope} {cl : List (Str × Addr)} {S : Led → Prop} {P : Nat → Value → Prop} {Fin : List Value → Led → Prop} {n : Nat} {news : Led} (Inv : Nat → List Value → Led → Prop) (h0 : Inv 0 [] news)
    (turn : ∀ i ys news v I oI C oC D m₂ h tk (E' : Value → Shared → Prop), i < n → Inv i ys news → P i v → NsObj oC m₂ → m₂ x = some v → Fr h₀ L h m → News h₀ L h ((I, oI) :: (C, oC) :: (D, lst ys) :: news) → Off3 I C D news → ((@Ne Nat I C) ∧ (@Ne Nat I D) ∧ (@Ne Nat C D)) →
      wpAny (model prog w) A (eval elt (compEnvC scope cl C env)) (CompEnd h₀ L m { s with heap := h, toks := tk } I oI C oC D (lst ys) S (fun y news' => Inv (i + 1) (ys ++ [y]) news')) E' { s with heap := h, toks := tk })
    (fin : ∀ ys news, Inv n ys news → Fin ys news) : CompRest prog w A h₀ L m env elt x scope cl s S P Fin n 0 [] news := by
  have key : ∀ k i ys news, k + i = n → Inv i ys news → CompRest prog w A h₀ L m env elt x scope cl s S P Fin k i ys news := by
    intro k
    induction k with
    | zero =>
      intro i ys news e hI
      obtain rfl : i = n := by omega
      exact CompRest.zero (fin ys news hI)
    | succ k ih =>
      intro i ys news e hI
      refine CompRest.succ fun v I oI C oC D m₂ h tk E' hP hC hx F N off ne => ?_
      exact wpAny_mono (turn i ys news v I oI C oC D m₂ h tk E' (by omega) hI hP hC hx F N off ne) (fun y s' z => CompEnd.imp z fun y nw hi => ih (i + 1) (ys ++ [y]) nw (by omega) hi) fun _ _ z => z
  exact key n 0 [] news (by omega) h0
end
section
open PySem.Builtin PySem.Builtin.ObjectAttr
theorem refuse_exc (self : Value) : refuseLoop self "__setattr__" [.ref 52, .ref 31, .type "Exception", .type "BaseException", .type "object"] = pure () := by
  rw [refuseLoop_ref, refuseLoop_ref]
  kernel_rfl

section
variable {w : World} {A : Around} {E : Value → Shared → Prop} {R : Result → Shared → Prop} {h : Heap} {g : Array GenState} {d : Drawn} {t : Nat} {os : OsState} {x : Addr} {mA : Str → Option Value}

theorem ex_store {K : Frag} {cd : ClassData} {name : Str} {v : Value} {tk : Tok} {ns : List Str} (X : K.In h) (hc52 : clsIn K 52 = some cd) (hmro : cd.mro = [.ref 52, .ref 31, .type "Exception", .type "BaseException", .type "object"]) (hhas : cd.hasDict = true)
    (hfind : findIn K (.ref 52) name = some none) (hobj : subIn K (.ref 52) (.type "object") = some true) (I : h.Inst x 52 mA)
    (hq : ∀ h' tk', h'.Inst x 52 (fun y => if y = name then some v else mA y) →
      (∀ b o, b ≠ x → (∀ o₀ dx, h.get? x = some o₀ → o₀.dict = some dx → b ≠ dx) → h.get? b = some o → h'.get? b = some o) →
      (∀ o₀, h.get? x = some o₀ → ∃ o₁, h'.get? x = some o₁ ∧ o₁.cls = o₀.cls ∧ o₁.data = o₀.data ∧ ∀ dx, o₁.dict = some dx → o₀.dict = some dx ∨ (o₀.dict = none ∧ h.objs.size ≤ dx)) → R (.ok (.ret .none)) ⟨h', g, d, tk', os⟩)
    (hw : Within mA ns) (hsz : ns.length ≤ 100) :
    codeAny (model PR w) A (.call (.builtin "object.__setattr__") ⟨[.ref x, .str name tk, v], []⟩) R ⟨h, g, d, t, os⟩ := by
  have SF := PySem.F.store_object
  obtain ⟨o, hx, hc, hnc, hd⟩ := I
  have ty : Looks (model PR w) h (typeOf (.ref x)) (.ref 52) := by
    have := (Looks.ld (M := model PR w) (part := none) hx)
    rw [← hc]
    exact (Looks.ld hx).andThen .now
  have sub : Looks (model PR w) h (isInstance (.ref x) (.type "object")) true := ty.andThen (looks_subIn X hobj)
  have hm : Looks (model PR w) h (mroOf (.ref 52)) cd.mro := (looks_clsIn X hc52).andThen .now
  refine codeAny_call_builtin SF.slot.plain SF.entry (@check_slot (model PR w) _ _ ⟨h, g, d, t, os⟩ "object.__setattr__" "object" "__setattr__" (.ref x) [.str name tk, v] [] _ SF.kind SF.split sub (SF.args (.ref x) (.str name tk) v) ?_)
  rw [osa_eq, refuse_eq]
  refine wpAny_bind (wpAny_bind (ty.here (wpAny_bind (hm.here ?_))))
  rw [hmro, refuse_exc]
  refine wpAny_pure (wpAny_bind (ty.here (wpAny_bind ((looks_findIn X hfind).here (wpAny_bind (wpAny_pure ?_))))))
  dsimp only [Option.isSome]
  unfold storeInOwnDict
  refine wpAny_bind (wpAny_pure ?_)
  show wpAny _ _ (ownDictForStores (.ref x) >>= _) _ _ _
  unfold ownDictForStores instanceDict
  refine wpAny_bind (wpAny_bind (wpAny_loadPart hx ?_))
  rw [hc]
  dsimp only
  refine wpAny_bind ((looks_clsIn X hc52).here ?_)
  rw [hhas]
  simp only [Bool.not_true, Bool.false_eq_true, if_false]
  rcases hd with ⟨hdn, hmA⟩ | ⟨dx, hdx, hne, hns⟩
  · rw [hdn]
    dsimp only
    rw [if_neg (by simp [typeHasDict])]
    have hx₁ : (h.push { cls := .type "dict", data := .dict #[] }).get? x = some o := Heap.get?_push_of_some _ hx
    have hxs : x ≠ h.objs.size := Nat.ne_of_lt (Heap.lt_size hx)
    have hgd : ((h.push { cls := .type "dict", data := .dict #[] }).update x fun o => { o with dict := some h.objs.size }).get? h.objs.size = some { cls := .type "dict", data := .dict #[] } :=
      (Heap.get?_update_ne _ _ _ _ hxs.symm).trans (Heap.get?_push_at rfl rfl)
    have hnd : ((h.push { cls := .type "dict", data := .dict #[] }).update x fun o => { o with dict := some h.objs.size }).Ns h.objs.size (fun _ => none) :=
      ⟨_, #[], _, hgd, rfl, fun e he => absurd he (by simp), fun _ => rfl⟩
    refine wpAny_bind (wpAny_alloc' ?_)
    refine wpAny_bind (wpAny_update' hx₁ ?_)
    refine wpAny_pure ?_
    show wpAny _ _ (storeInDict h.objs.size (.str name tk) name v) _ _ _
    unfold storeInDict newKeyGuard
    refine wpAny_bind (wpAny_pure (wpAny_bind (wpAny_nsSet1 (Heap.Ns1.of_empty hnd) fun h' hn' hs => ?_)))
    obtain ⟨oD, esD, epD, hoD, hdD, hcD⟩ := hn'.count (Within.cons name v Within.nil)
    refine wpAny_bind (wpAny_lookBehind hoD (by rw [hdD]; exact pastItsLine_dict (Nat.le_trans hcD (by rw [List.length_cons, List.length_nil, sizeLine_eq]; omega))) ?_)
    refine wpAny_pure ?_
    have hx' : h'.get? x = some { o with dict := some h.objs.size } := by
      refine (hs.2 x hxs).trans (Heap.get?_update_self _ hx₁ ?_)
      have hfr := (Heap.get?_some_iff.mp hx).2
      obtain ⟨oc, od, odt, osl⟩ := o
      cases odt <;> first | rfl | exact hfr
    refine hq h' _ ⟨_, hx', hc, hnc, .inr ⟨h.objs.size, rfl, hxs.symm, ?_⟩⟩ (fun b ob hbx _ hb => ?_) (fun o₀ h₀ => ?_)
    · obtain ⟨o', es, ep, e1, e2, e3, eu, e4⟩ := hn'
      exact ⟨o', es, ep, e1, e2, e3, eu, fun y => by rw [e4 y]; by_cases hy : y = name <;> simp [hy, hmA]⟩
    · exact (hs.2 b (Nat.ne_of_lt (Heap.lt_size hb))).trans ((Heap.get?_update_ne _ _ _ _ hbx).trans (Heap.get?_push_of_some _ hb))
    · obtain rfl : o = o₀ := Option.some.inj (hx.symm.trans h₀)
      exact ⟨_, hx', rfl, rfl, fun dx e => by cases e; exact .inr ⟨hdn, Nat.le_refl _⟩⟩
  · rw [hdx]
    refine wpAny_pure ?_
    show wpAny _ _ (storeInDict dx (.str name tk) name v) _ _ _
    unfold storeInDict newKeyGuard
    refine wpAny_bind (wpAny_pure (wpAny_bind (wpAny_nsSet1 hns fun h' hn' hs => ?_)))
    obtain ⟨oD, esD, epD, hoD, hdD, hcD⟩ := hn'.count (Within.cons name v hw)
    refine wpAny_bind (wpAny_lookBehind hoD (by rw [hdD]; exact pastItsLine_dict (Nat.le_trans hcD (by rw [List.length_cons, sizeLine_eq]; omega))) ?_)
    refine wpAny_pure ?_
    refine hq h' _ ⟨o, (hs.2 x hne.symm).trans hx, hc, hnc, .inr ⟨dx, hdx, hne, hn'⟩⟩ (fun b ob _ hbd hb => (hs.2 b (hbd o dx hx hdx)).trans hb) (fun o₀ h₀ => ⟨o₀, (hs.2 x hne.symm).trans h₀, rfl, rfl, fun dx e => .inl e⟩)

theorem ex_set {K : Frag} {cd : ClassData} {name : Str} {v : Value} {ns : List Str} {Q : Unit → Shared → Prop} (X : K.In h) (hc52 : clsIn K 52 = some cd) (hmro : cd.mro = [.ref 52, .ref 31, .type "Exception", .type "BaseException", .type "object"]) (hhas : cd.hasDict = true)
    (hfind : findIn K (.ref 52) name = some none) (hobj : subIn K (.ref 52) (.type "object") = some true) (hsa : findIn K (.ref 52) "__setattr__" = some (some (.builtin "object.__setattr__"))) (I : h.Inst x 52 mA)
    (hq : ∀ h' tk', h'.Inst x 52 (fun y => if y = name then some v else mA y) →
      (∀ b o, b ≠ x → (∀ o₀ dx, h.get? x = some o₀ → o₀.dict = some dx → b ≠ dx) → h.get? b = some o → h'.get? b = some o) →
      (∀ o₀, h.get? x = some o₀ → ∃ o₁, h'.get? x = some o₁ ∧ o₁.cls = o₀.cls ∧ o₁.data = o₀.data ∧ ∀ dx, o₁.dict = some dx → o₀.dict = some dx ∨ (o₀.dict = none ∧ h.objs.size ≤ dx)) → Q () ⟨h', g, d, tk', os⟩)
    (hw : Within mA ns) (hsz : ns.length ≤ 100) :
    wpAny (model PR w) A (setAttr (.ref x) name v) Q E ⟨h, g, d, t, os⟩ := by
  obtain ⟨o, hx, hc, _⟩ := id I
  have ty : Looks (model PR w) h (typeOf (.ref x)) (.ref 52) := by
    rw [← hc]
    exact (Looks.ld hx).andThen .now
  refine wpAny_bind (wpAny_mkText (wpAny_bind (wpAny_bind (wpAny_bind (ty.here ((looks_findIn X hsa).here (wpAny_holding ?_)))))))
  rw [PySem.F.store_object.slot.bind]
  refine wpAny_bind (wpAny_pure (wpAny_bind (wpAny_call (ex_store X hc52 hmro hhas hfind hobj I (fun h' tk' I' hk ho => ?_) hw hsz))))
  exact wpAny_pure (wpAny_pure (hq h' tk' I' hk ho))
end
end
abbrev BM : List Value := [.ref 31, .type "Exception", .type "BaseException", .type "object"]
section
variable {w : World} {A : Around} {E : Value → Shared → Prop} {R : Result → Shared → Prop} {h : Heap} {g : Array GenState} {d : Drawn} {t : Nat} {os : OsState}
variable {nm q : Str} {N : Addr} {bs : List Value} {hdct : Bool} {sn : List Str} {sub : List Value} {ab : Bool} {col : Option Bool} {dd : Option Addr} {k0 k1 k2 k3 k5 : Option Value}

theorem ex_checkNew {M : Model} {rest : List Value} {Q : Unit → Shared → Prop} (hC : h.get? 52 = some (excClassObj nm q 52 N bs BM hdct sn sub ab col dd k0 k1 k2 k3 k5 "Exception.__new__"))
    (hq : Q () ⟨h, g, d, t, os⟩) : wpAny M A (checkBuiltinCall "Exception.__new__" ⟨.ref 52 :: rest, []⟩) Q E ⟨h, g, d, t, os⟩ := by
  have F := PySem.F.excBase_Exception
  have hcont : (Value.ref 52 :: BM).contains (.type "Exception") = true := by decide
  have hstar := F.noStar
  simp only [checkBuiltinCall, F.newKind, F.newSplit, F.newRow]
  repeat (first | refine wpAny_loadPart_at hC ?_ | (refine wpAny_isSubtype_exc hC ?_; rw [hcont]) | refine wpAny_staticBase_exc hC ?_ | refine wpAny_madeBy_exc hC ?_ | simp only [bne_self_eq_false, Bool.false_eq_true, if_false] | wp_step)
  exact hq

theorem ex_new {rest : List Value} (hC : h.get? 52 = some (excClassObj nm q 52 N bs BM hdct sn sub ab col dd k0 k1 k2 k3 k5 "Exception.__new__"))
    (hq : R (.ok (.ret (.ref (h.objs.size + 1)))) ⟨(h.push { cls := .type "tuple", data := .seq rest.toArray }).push
      { cls := .ref 52, data := .fields #[.ref h.objs.size, .none, .none, .none, .bool false, .none] }, g, d, t, os⟩) (hrest : rest.length ≤ sizeLine) :
    codeAny (model PR w) A (.builtin "Exception.__new__" ⟨.ref 52 :: rest, []⟩) R ⟨h, g, d, t, os⟩ := by
  have F := PySem.F.excBase_Exception
  have hends := F.ends
  have hcB : (Value.ref 52 :: BM).contains (.type "Exception") = true := by decide
  have hcA : (Value.ref 52 :: BM).contains (.type "AttributeError") = false := by decide
  have hcN : (Value.ref 52 :: BM).contains (.type "NameError") = false := by decide
  refine codeAny_builtinAt F.entry ?_
  unfold Builtin.«BaseException.__new__»
  refine PySem.wpAt_bind ?_
  show PySem.wpAt _ _ _ (stack >>= _) _ _ _
  refine PySem.wpAt_bind (PySem.wpAt_stack fun p below => PySem.wpAt_of_wpAny ?_)
  wp_walk
  refine PySem.wpAt_of_wpAny ?_
  rw [F.owner]
  repeat (first | with_reducible refine wpAny_madeHere_exc F.canon hC ?_ | with_reducible refine wpAny_loadPart_at hC ?_ | (with_reducible refine wpAny_isSubtype_exc hC ?_; first | rw [hcB] | rw [hcA] | rw [hcN]) | wp_step)
  show R _ _
  rw [Heap.size_push]
  exact hq
end
section
variable {w : World} {A : Around} {E : Value → Shared → Prop} {R : Result → Shared → Prop} {h : Heap} {g : Array GenState} {d : Drawn} {t : Nat} {os : OsState}
variable {nm q : Str} {N : Addr} {bs : List Value} {hdct : Bool} {sn : List Str} {sub : List Value} {ab : Bool} {col : Option Bool} {dd : Option Addr} {k0 k1 k2 k3 k5 : Option Value}
abbrev exTup (rest : List Value) : Obj := { cls := .type "tuple", data := .seq rest.toArray }
abbrev exObj (a : Addr) : Obj := { cls := .ref 52, data := .fields #[.ref a, .none, .none, .none, .bool false, .none] }

theorem ex_typeCall {K : Frag} {rest : List Value} {Q : PySem.Fin → Shared → Prop} (X : K.In h) (hC : h.get? 52 = some (excClassObj nm q 52 N bs BM hdct sn sub ab col dd k0 k1 k2 k3 k5 "Exception.__new__"))
    (hi : findIn K (.ref 52) "__init__" = some (some (.ref 49))) (hf : typeIn K (.ref 49) = some (.type "function")) (hrest : rest.length ≤ sizeLine)
    (hq : wpAny (model PR w) A (call (.ref 49) (.ref (h.objs.size + 1) :: rest)) (fun v s' => v = .none ∧ Q (.done (.ret (.ref (h.objs.size + 1)))) s') E ⟨(h.push (exTup rest)).push (exObj h.objs.size), g, d, t, os⟩) :
    wpAny (model PR w) A (Builtin.«type.__call__» ⟨.ref 52 :: rest, []⟩) Q E ⟨h, g, d, t, os⟩ := by
  have F := PySem.F.excBase_Exception
  repeat (first | with_reducible refine wpAny_loadPart_at hC ?_ | with_reducible refine wpAny_madeBy_exc hC ?_ | wp_step)
  refine codeAny_call_builtin_code (Code.quiet_builtin _ F.quiet) (ex_checkNew hC ?_)
  refine ex_new hC ?_ hrest
  show wpAny _ _ _ _ _ _
  have k : ∀ b o, h.get? b = some o → ((h.push (exTup rest)).push (exObj h.objs.size)).get? b = some o := fun b o e => Heap.get?_push_of_some _ (Heap.get?_push_of_some _ e)
  have hC₁ := k _ _ hC
  have hget : ((h.push (exTup rest)).push (exObj h.objs.size)).get? (h.objs.size + 1) = some (exObj h.objs.size) := by heap_get
  have hcC : (Value.ref 52 :: BM).contains (.ref 52) = true := by decide
  unfold isInstance
  repeat (first | with_reducible refine wpAny_loadPart_at hget ?_ | (with_reducible refine wpAny_isSubtype_exc hC₁ ?_; rw [hcC]) | wp_step)
  show wpAny _ _ (typeLookup (.ref 52) _) _ _ _
  refine (looks_findIn (X.keeps k) hi).here ?_
  refine wpAny_holding (wpAny_bind ((bind_fn (X.keeps k) _ hf).here ?_))
  refine wpAny_bind (wpAny_mono hq (fun v s' z => ?_) fun _ _ z => z)
  obtain ⟨rfl, z⟩ := z
  exact wpAny_pure (wpAny_pure z)

theorem ex_make {K : Frag} {rest : List Value} {Q : Value → Shared → Prop} (X : K.In h) (hC : h.get? 52 = some (excClassObj nm q 52 N bs BM hdct sn sub ab col dd k0 k1 k2 k3 k5 "Exception.__new__"))
    (hi : findIn K (.ref 52) "__init__" = some (some (.ref 49))) (hf : typeIn K (.ref 49) = some (.type "function")) (hrest : rest.length ≤ sizeLine)
    (hq : wpAny (model PR w) (A.under (.builtin "type.__call__" ⟨.ref 52 :: rest, []⟩)) (call (.ref 49) (.ref (h.objs.size + 1) :: rest)) (fun v s' => v = .none ∧ Q (.ref (h.objs.size + 1)) s') E ⟨(h.push (exTup rest)).push (exObj h.objs.size), g, d, t, os⟩) :
    wpAny (model PR w) A (call (.ref 52) rest) Q E ⟨h, g, d, t, os⟩ := by
  have f1 := tc_lookup
  have f2 := tc_bind (.ref 52)
  have hT : (⟨h, g, d, t, os⟩ : Shared).TypeIs (.ref 52) "type" := ⟨_, hC, rfl⟩
  refine wpAny_call (codeAny_of_tree ?_)
  show wpAny _ _ (callAny (.ref 52) _) _ _ _
  repeat (any_goals (first | assumption | with_reducible refine wpAny_loadPart_at hC ?_ | wp_step))
  refine ⟨rfl, ?_⟩
  refine codeAny_call_builtin_at (Code.quiet_builtin _ (by decide +kernel)) entry_typeCall (wpAny_check_type_call_sub hC (ex_typeCall X hC hi hf hrest ?_))
  exact hq
end
abbrev exFs (a : Addr) : Data := .fields #[.ref a, .none, .none, .none, .bool false, .none]
def IsExD (o : Obj) (d : Option Addr) : Prop := o.cls = .ref 52 ∧ o.dict = d ∧ ∃ a, o.data = exFs a
theorem IsExD.ncls {o : Obj} {d : Option Addr} (x : IsExD o d) : ∀ c, o.data ≠ .cls c := fun c e => by
  obtain ⟨_, _, a, h⟩ := x
  rw [h] at e; cases e
def DictOk (o : Obj) : Prop := ∃ es n m ns, o.data = .dict es n ∧ StrKeys es ∧ UniqKeys es ∧ (∀ name, nsFind es name = m name) ∧ PySem.Within m ns ∧ ns.length ≤ 50
structure Cls52 (K : Frag) : Prop where
  cd : ∃ cd, clsIn K 52 = some cd ∧ cd.mro = [.ref 52, .ref 31, .type "Exception", .type "BaseException", .type "object"] ∧ cd.hasDict = true
  msg : findIn K (.ref 52) "message" = some none
  row : findIn K (.ref 52) "row" = some none
  obj : subIn K (.ref 52) (.type "object") = some true
  sa : findIn K (.ref 52) "__setattr__" = some (some (.builtin "object.__setattr__"))
  init : findIn K (.ref 52) "__init__" = some (some (.ref 49))
  fn : typeIn K (.ref 49) = some (.type "function")
  hC : ∃ nm q N bs hdct sn sub ab col dd k0 k1 k2 k3 k5, K.lookup 52 = some (excClassObj nm q 52 N bs BM hdct sn sub ab col dd k0 k1 k2 k3 k5 "Exception.__new__")

theorem cls52 (w : World) : Cls52 (Mine.k.heap_1 w.params) where
  cd := ⟨_, rfl, rfl, rfl⟩
  msg := by kernel_rfl
  row := by kernel_rfl
  obj := by kernel_rfl
  sa := by kernel_rfl
  init := by kernel_rfl
  fn := by kernel_rfl
  hC := ⟨_, _, _, _, _, _, _, _, _, _, _, _, _, _, _, rfl⟩

section
variable {w : World} {A : Around} {E : Value → Shared → Prop} {s : Shared} {h₀ : Heap} {L : Addr} {m : Str → Option Value} {e : Addr} {o : Obj} {K : Frag} {name : Str} {v : Value} {Q : Unit → Shared → Prop}
theorem exK_set1 (C : Cls52 K) (F : Fr h₀ L s.heap m := by k_asm) (X₀ : K.In h₀ := by k_asm) (N : News h₀ L s.heap [(e, o)] := by k_asm) (ho : IsExD o none := by assumption) (hn : name = "message" ∨ name = "row" := by first | exact .inl rfl | exact .inr rfl)
    (hq : ∀ h' d od o' tk', Fr h₀ L h' m → News h₀ L h' [(d, od), (e, o')] → d ≠ e → DictOk od → IsExD o' (some d) → Q () { s with heap := h', toks := tk' }) :
    wpAny (model PR w) A (setAttr (.ref e) name v) Q E s := by
  obtain ⟨hp, g, d, t, os⟩ := s
  obtain ⟨cd, c1, c2, c3⟩ := C.cd
  obtain ⟨hx, hxL, hx0⟩ := N (e, o) (.head _)
  have hfind : findIn K (.ref 52) name = some none := by rcases hn with rfl | rfl; exact C.msg; exact C.row
  have I : hp.Inst e 52 (fun _ => none) := ⟨o, hx, ho.1, ho.ncls, .inl ⟨ho.2.1, fun _ => rfl⟩⟩
  refine ex_set (ns := []) (X₀.keeps F.keep) c1 c2 c3 hfind C.obj C.sa I (fun h' tk' I' hk hob => ?_) PySem.Within.nil (by simp)
  obtain ⟨o₁, h1, h2, h3, h4⟩ := hob o hx
  obtain ⟨o₂, g1, g2, g3, g4⟩ := I'
  obtain rfl : o₁ = o₂ := Option.some.inj (h1.symm.trans g1)
  rcases g4 with ⟨_, z⟩ | ⟨dx, z1, z2, oD, es, ep, y1, y2, y3, y4, y5⟩
  · have := z name; simp at this
  · have hdx : hp.objs.size ≤ dx := ((h4 dx z1).resolve_left fun q => by rw [ho.2.1] at q; cases q).2
    have keepAll : ∀ b ob, b ≠ e → hp.get? b = some ob → h'.get? b = some ob := fun b ob hb q => hk b ob hb (fun o₀ dx' q1 q2 => by rw [hx] at q1; cases q1; rw [ho.2.1] at q2; cases q2) q
    obtain ⟨oL, hL, hLr⟩ := F.ns
    have hLlt := Heap.lt_size hLr.choose_spec.1
    refine hq h' dx oD o₁ tk' ⟨⟨oL, hL, hLr.choose, keepAll _ _ (Ne.symm hxL) hLr.choose_spec.1, hLr.choose_spec.2⟩, fun b ob q => keepAll b ob (fun z => by rw [z, hx0] at q; cases q) (F.keep b ob q), F.above⟩ (fun p hp' => ?_) z2 ⟨es, ep, _, _, y2, y3, y4, y5, PySem.Within.cons name v PySem.Within.nil, by simp⟩ ⟨h2.trans ho.1, z1, by obtain ⟨a, z⟩ := ho.2.2; exact ⟨a, h3.trans z⟩⟩
    rcases List.mem_cons.mp hp' with rfl | hp'
    · have hlt : L < hp.objs.size := hLlt
      refine ⟨y1, Nat.ne_of_gt (Nat.lt_of_lt_of_le hlt hdx), Heap.get?_none_of_le ?_⟩
      show h₀.objs.size ≤ dx
      exact Nat.le_trans F.above (Nat.le_trans (Nat.le_of_lt hlt) hdx)
    · rw [List.mem_singleton.mp hp']
      exact ⟨h1, hxL, hx0⟩

theorem exK_set2 {d : Addr} {od : Obj} (C : Cls52 K) (F : Fr h₀ L s.heap m := by k_asm) (X₀ : K.In h₀ := by k_asm) (N : News h₀ L s.heap [(d, od), (e, o)] := by k_asm) (hde : d ≠ e := by assumption) (hod : DictOk od := by assumption) (ho : IsExD o (some d) := by assumption) (hn : name = "message" ∨ name = "row" := by first | exact .inl rfl | exact .inr rfl)
    (hq : ∀ h' o' tk', Fr h₀ L h' m → News h₀ L h' [(e, o')] → IsExD o' (some d) → Q () { s with heap := h', toks := tk' }) :
    wpAny (model PR w) A (setAttr (.ref e) name v) Q E s := by
  obtain ⟨hp, g, dr, t, os⟩ := s
  obtain ⟨cd, c1, c2, c3⟩ := C.cd
  obtain ⟨hx, hxL, hx0⟩ := N (e, o) (.tail _ (.head _))
  obtain ⟨hd, hdL, hd0⟩ := N (d, od) (.head _)
  obtain ⟨es, n, mA, ns, q1, q2, q3, q4, q5, q6⟩ := hod
  have hfind : findIn K (.ref 52) name = some none := by rcases hn with rfl | rfl; exact C.msg; exact C.row
  have I : hp.Inst e 52 mA := ⟨o, hx, ho.1, ho.ncls, .inr ⟨d, ho.2.1, hde, od, es, n, hd, q1, q2, q3, q4⟩⟩
  refine ex_set (ns := ns) (X₀.keeps F.keep) c1 c2 c3 hfind C.obj C.sa I (fun h' tk' I' hk hob => ?_) q5 (by omega)
  obtain ⟨o₁, h1, h2, h3, h4⟩ := hob o hx
  obtain ⟨o₂, g1, g2, g3, g4⟩ := I'
  obtain rfl : o₁ = o₂ := Option.some.inj (h1.symm.trans g1)
  rcases g4 with ⟨_, z⟩ | ⟨dx, z1, z2, oD, es', ep, y1, y2, y3, y4, y5⟩
  · have := z name; simp at this
  · have keepAll : ∀ b ob, b ≠ e → b ≠ d → hp.get? b = some ob → h'.get? b = some ob := fun b ob hb hbd q => hk b ob hb (fun o₀ dx' r1 r2 => by rw [hx] at r1; cases r1; rw [ho.2.1] at r2; cases r2; exact hbd) q
    have hdx : dx = d := by
      rcases h4 dx z1 with q | q
      · rw [ho.2.1] at q; exact (Option.some.inj q).symm
      · have q1 := q.1
        rw [ho.2.1] at q1; cases q1
    obtain ⟨oL, hL, hLr⟩ := F.ns
    refine hq h' o₁ tk' ⟨⟨oL, hL, hLr.choose, keepAll _ _ (Ne.symm hxL) (Ne.symm hdL) hLr.choose_spec.1, hLr.choose_spec.2⟩, fun b ob q => keepAll b ob (fun z => by rw [z, hx0] at q; cases q) (fun z => by rw [z, hd0] at q; cases q) (F.keep b ob q), F.above⟩ (fun p hp' => ?_) ⟨h2.trans ho.1, by rw [z1, hdx], by obtain ⟨a, z⟩ := ho.2.2; exact ⟨a, h3.trans z⟩⟩
    rw [List.mem_singleton.mp hp']
    exact ⟨h1, hxL, hx0⟩
end
section
variable {w : World} {A : Around} {E : Value → Shared → Prop} {s : Shared} {h₀ : Heap} {L : Addr} {m : Str → Option Value} {e : Addr} {o : Obj} {K : Frag}
theorem ex_checkInit {h : Heap} {g : Array GenState} {d : Drawn} {t : Nat} {os : OsState} {nm q : Str} {N : Addr} {bs : List Value} {hdct : Bool} {sn : List Str} {sub : List Value} {ab : Bool} {col : Option Bool} {dd : Option Addr} {k0 k1 k2 k3 k5 : Option Value} {rest : List Value} {Q : Unit → Shared → Prop}
    (hC : h.get? 52 = some (excClassObj nm q 52 N bs BM hdct sn sub ab col dd k0 k1 k2 k3 k5 "Exception.__new__")) (he : h.get? e = some o) (hcls : o.cls = .ref 52) (hq : Q () ⟨h, g, d, t, os⟩) :
    wpAny (model PR w) A (checkBuiltinCall "Exception.__init__" ⟨.ref e :: rest, []⟩) Q E ⟨h, g, d, t, os⟩ := by
  have F := PySem.F.excBase_Exception
  have hcB : (Value.ref 52 :: BM).contains (.type "Exception") = true := by decide
  have hshort := F.noStar
  simp only [checkBuiltinCall, F.initKind, F.initSplit, F.initRow]
  repeat (first | (with_reducible refine wpAny_loadPart_at he ?_; rw [hcls]) | with_reducible refine wpAny_loadPart_at hC ?_ | (with_reducible refine wpAny_isSubtype_exc hC ?_; rw [hcB]) | wp_step)
  refine wpAny_onRaise ?_
  rw [show ∀ (a b : String) (n : Nat), Bind.check ⟨.positional, "*", "Exception", .self, [⟨"args", .varPos, false⟩]⟩ a b n (List.map (fun x => x.fst) ({ pos := Value.ref e :: rest } : Args).kw) = pure () from
    fun a b n => check_star_args _ _ _ _ _ _]
  exact wpAny_pure hq

theorem exK_init {Q : Value → Shared → Prop} {v : Value} (C : Cls52 K) (F : Fr h₀ L s.heap m := by k_asm) (X₀ : K.In h₀ := by k_asm) (N : News h₀ L s.heap [(e, o)] := by k_asm) (ho : IsExD o none := by assumption)
    (hq : ∀ h' o' tk', Fr h₀ L h' m → News h₀ L h' [(e, o')] → IsExD o' none → Q .none { s with heap := h', toks := tk' }) :
    wpAny (model PR w) A (call (.builtin "Exception.__init__") [.ref e, v]) Q E s := by
  have FF := PySem.F.excBase_Exception
  obtain ⟨hp, g, d, t, os⟩ := s
  obtain ⟨nm, q, N', bs, hdct, sn, sub, ab, col, dd, k0, k1, k2, k3, k5, hl⟩ := C.hC
  have hC := (X₀.keeps F.keep) _ _ hl
  have hx := (N (e, o) (.head _)).1
  obtain ⟨cl, dk, dt, sl⟩ := o
  obtain ⟨rfl, rfl, a, rfl⟩ := ho
  refine wpAny_call (codeAny_call_builtin FF.init.plain FF.initEntry (ex_checkInit hC hx rfl ?_))
  have F1 := F.push (exTup [v])
  have N1 := N.push F (exTup [v])
  have hx1 := Heap.get?_push_of_some (exTup [v]) hx
  obtain ⟨U1, U2⟩ := news_upd (pre := [(hp.objs.size, exTup [v])]) (post := []) (f := Obj.mapFields (·.setIfInBounds 0 (.ref hp.objs.size))) (d := e) (o := ⟨.ref 52, none, exFs a, sl⟩) (o' := ⟨.ref 52, none, exFs hp.objs.size, sl⟩) F1 N1
    (fun p hp' => by rw [List.mem_singleton.mp hp']; exact Nat.ne_of_gt (Heap.lt_size hx)) (fun p hp' => nomatch hp') rfl rfl
  wp_walk
  exact hq _ _ _ U1 (fun p hp' => U2 p (by rw [List.mem_singleton.mp hp']; exact .tail _ (.head _))) ⟨rfl, rfl, _, rfl⟩
end
theorem fresh_C4c : True := by (w_top off); trivial
theorem meta_Exception : typeOf (.type "Exception") = pure (.type "type") := by kernel_rfl
theorem my_meth {prog : Program} {w : World} {A : Around} {E : Value → Shared → Prop} {s : Shared} {h₀ : Heap} {L : Addr} {m : Str → Option Value} {K : Frag} {name : Str} {pl : Sem Bool} {v : Value} {Q : Value × List Value → Shared → Prop} (h : Q (v, []) { s with toks := s.toks + 1 }) (F : Fr h₀ L s.heap m := by k_asm) (X₀ : K.In h₀ := by k_asm)
    (e : findCls K (.type "Exception") (.type "type") name = some (.val v) := by k_dflt k_is) (hh : handedIn v = true := by k_handed) : wpAny (model prog w) A (getMethod (.type "Exception") name pl) Q E s := method_type F X₀ meta_Exception (by decide +kernel) e hh h
local macro_rules | `(tactic| walk_at "getMethod type:Exception") => `(tactic| (k_here; refine my_meth ?_))
local macro_rules | `(tactic| walk_at "call builtin:Exception.__init__") => `(tactic| (k_here; k_dflt refine exK_init (cls52 _) (hq := ?_); intros; k_sweep))
local macro_rules | `(tactic| walk_at "setAttr ref") => `(tactic| (k_here; k_dflt refine exK_set2 (cls52 _) (hq := ?_); intros; k_sweep))
local macro_rules | `(tactic| walk_at "setAttr ref") => `(tactic| (k_here; k_dflt refine exK_set1 (cls52 _) (hq := ?_); intros; k_sweep))

theorem init28_ok (w : World) (e : Addr) (o : Obj) (msg : Str) (t : Tok) (ho : IsExD o none) :
    Spec1 w 28 [.ref e, .str msg t] e o [] (fun v o' new => v = .none ∧ ∃ d od, (IsExD o' (some d) ∧ DictOk od ∧ d ≠ e) ∧ new = [(d, od)]) False 3 40 := by
  unfold Spec1 SpecG KK PR
  k_fill
  intro loose mean mg mb dp un gd envs base g s R B X T hk hsz hp hd hu hret hexc
  (k_dflt refine code_sep (h := ?_)); k_whole; intro L' h' tk' mp F' N'; (try dsimp only [List.nil_append, List.cons_append] at N'); intro ev Ar Mo; (try dsimp only); (try k_fold)
  k_steps
  try k_unfold
  (try dsimp only)
  refine hret _ [(e, _)] [_] _ _ (Fr.keep (by assumption)) (out_news (by assumption) (by
    intro p hp
    simp only [List.append_nil, List.cons_append, List.nil_append, List.mem_cons, List.not_mem_nil, or_false] at hp
    rcases hp with rfl | rfl
    · exact .tail _ (.head _)
    · exact .head _)) (by
    intro p hp q hq
    simp only [List.append_nil, List.mem_singleton] at hp hq
    subst hp hq
    exact Ne.symm (by assumption)) ⟨_, rfl, rfl, _, _, ⟨by assumption, by assumption, by assumption⟩, rfl⟩
section
variable {w : World} {f : Addr} {vs : List Value} {rd led : Led} {d u : Nat} {A₀ A : Around} {base h₀ : Heap} {outer : List Env} {L : Addr} {m : Str → Option Value} {env : Env} {s : Shared} {Q E : Value → Shared → Prop}
  {loose : List Str} {mean : ExcName → Option Value} {mg mb : Str → Option Value} {l : Addr} {o : Obj} {gl : Obj → Led}
theorem useE {r : Value} {P : Obj → Addr → Obj → Prop} (S : Spec1 w f vs l o rd (fun v o' new => v = r ∧ ∃ d od, P o' d od ∧ new = [(d, od)]) False d u)
  (ret : ∀ o' d' od' h' tk', Fr h₀ L h' m → News h₀ L h' ((d', od') :: gl o') → P o' d' od' → Q r { s with heap := h', toks := tk' })
  (F : Fr h₀ L s.heap m := by k_asm) (N : News h₀ L s.heap led := by k_asm) (B : Below A₀ base outer h₀ := by k_asm) (X : (KK w).In h₀ := by k_asm) (T : Top topProg loose mean mg mb h₀ := by k_asm)
  (hA : A.frames = some (env :: outer) := by rfl) (hh : A.handled = none := by rfl) (hf : env.frame = some L := by rfl) (hke : env.scope.kind = .function := by rfl)
  (U : UpdF l o led gl := by k_updF) (hsub : SubL rd led := by k_subL) (hd : A.depth + d < recursionLimit := by k_room) (hu : A.units + u < cLine := by k_room) : wpAny (model PR w) A (call (.ref f) vs) Q E s :=
  spec_use1 S B F X N T hA hh hf hke U hsub hd hu (fun _ o' _ h' tk' F' N' _ ⟨e1, d', od', p, e2⟩ => by subst e1 e2; exact ret o' d' od' h' tk' F' N' p) (fun _ _ _ _ _ _ _ _ h => h.elim)
end
section
variable {w : World} {A₀ A : Around} {base h₀ : Heap} {outer : List Env} {L : Addr} {m : Str → Option Value} {env : Env} {s : Shared} {Q E : Value → Shared → Prop}
  {loose : List Str} {mean : ExcName → Option Value} {mg mb : Str → Option Value} {led : Led} {gl : Obj → Led}
theorem call28 {e : Addr} {o : Obj} {msg : Str} {t : Tok}
  (ret : ∀ o' d' od' h' tk', Fr h₀ L h' m → News h₀ L h' ((d', od') :: gl o') → IsExD o' (some d') → DictOk od' → d' ≠ e → Q (.none) { s with heap := h', toks := tk' })
  (F : Fr h₀ L s.heap m := by k_asm) (N : News h₀ L s.heap led := by k_asm) (B : Below A₀ base outer h₀ := by k_asm) (X : (KK w).In h₀ := by k_asm) (T : Top topProg loose mean mg mb h₀ := by k_asm)
  (hA : A.frames = some (env :: outer) := by rfl) (hh : A.handled = none := by rfl) (hf : env.frame = some L := by rfl) (hke : env.scope.kind = .function := by rfl) (ho : IsExD o none := by assumption) (U : UpdF e o led gl := by k_updF) (hsub : SubL [] led := by k_subL) (hd : A.depth + 3 < recursionLimit := by k_room) (hu : A.units + 40 < cLine := by k_room) : wpAny (model PR w) A (call (.ref 28) [.ref e, .str msg t]) Q E s :=
  useE (init28_ok w e o msg t ho) (fun o' d' od' h' tk' F' N' p => ret o' d' od' h' tk' F' N' p.1 p.2.1 p.2.2) F N B X T hA hh hf hke U hsub hd hu
end
local macro_rules | `(tactic| walk_at "call ref") => `(tactic| (k_here; k_dflt refine call28 ?_; intros; k_sweep))

theorem init49_ok (w : World) (e : Addr) (o : Obj) (msg : Str) (t t' : Tok) (row : Int) (ho : IsExD o none) :
    Spec1 w 49 [.ref e, .str msg t, .int row t'] e o [] (fun v o' new => v = .none ∧ (∃ d, IsExD o' (some d)) ∧ new = []) False 6 60 := by
  unfold Spec1 SpecG KK PR
  k_fill
  intro loose mean mg mb dp un gd envs base g s R B X T hk hsz hp hd hu hret hexc
  (k_dflt refine code_sep (h := ?_)); k_whole; intro L' h' tk' mp F' N'; (try dsimp only [List.nil_append, List.cons_append] at N'); intro ev Ar Mo; (try dsimp only); (try k_fold)
  k_steps
  try k_unfold
  (try dsimp only)
  refine hret _ [_] [] _ _ (Fr.keep (by assumption)) (out_news (by assumption) (fun _ h => h)) (fun _ h => nomatch h) ⟨_, rfl, rfl, ⟨_, by assumption⟩, rfl⟩
section
variable {w : World} {A A₀ : Around} {E : Value → Shared → Prop} {s : Shared} {base h₀ : Heap} {outer : List Env} {L : Addr} {m : Str → Option Value} {env : Env} {Q : Value → Shared → Prop}
  {loose : List Str} {mean : ExcName → Option Value} {mg mb : Str → Option Value} {msg : Str} {t t' : Tok} {row : Int}
theorem se_call (B : Below A₀ base outer h₀ := by k_asm) (F : Fr h₀ L s.heap m := by k_asm) (X : (KK w).In h₀ := by k_asm) (T : Top topProg loose mean mg mb h₀ := by k_asm)
    (hA : A.frames = some (env :: outer) := by exact rfl) (hh : A.handled = none := by exact rfl) (hf : env.frame = some L := by exact rfl) (hke : env.scope.kind = .function := by exact rfl) (hd : A.depth + 8 < recursionLimit := by k_room) (hu : A.units + 70 < cLine := by k_room)
    (hq : ∀ h' e tk', NewSE s.heap h' e → Q (.ref e) { s with heap := h', toks := tk' }) : wpAny (model PR w) A (call (.ref 52) [.str msg t, .int row t']) Q E s := by
  have C := cls52 w
  obtain ⟨nm, q, N', bs, hdct, sn, sub, ab, col, dd, k0, k1, k2, k3, k5, hl⟩ := C.hC
  have XS := X.keeps F.keep
  have hC := XS _ _ hl
  obtain ⟨hp, g, d, tk, os⟩ := s
  refine ex_make XS hC C.init C.fn (by rw [sizeLine_eq]; exact Nat.le_of_ble_eq_true rfl) ?_
  have F1 := F.push (exTup [.str msg t, .int row t'])
  have F2 := F1.push (exObj hp.objs.size)
  have N2 := (News.nil (h₀ := h₀) (L := L)).push F1 (exObj hp.objs.size)
  rw [Heap.size_push] at N2
  have S := init49_ok w (hp.objs.size + 1) (exObj hp.objs.size) msg t t' row ⟨rfl, rfl, _, rfl⟩
  have up : ∀ b o, hp.get? b = some o → ((hp.push (exTup [.str msg t, .int row t'])).push (exObj hp.objs.size)).get? b = some o := fun b o e => Heap.get?_push_of_some _ (Heap.get?_push_of_some _ e)
  obtain ⟨Ah, Ad, Af, Ag, Au⟩ := A
  dsimp only at hA hh hd hu
  subst hA hh
  obtain ⟨FG, BG, st, -⟩ := groundX (R := fun _ _ => True) (s := ⟨(hp.push (exTup [.str msg t, .int row t'])).push (exObj hp.objs.size), g, d, tk, os⟩) (A := arX (Ad + 1) (Au + 1) Ag (env :: outer)) B F2 N2 rfl hf hke
  generalize hG : hideAll ((hp.push (exTup [.str msg t, .int row t'])).push (exObj hp.objs.size)) (([(hp.objs.size + 1, exObj hp.objs.size)] : Led).map (·.1)) = G at *
  have inG : ∀ b o, hp.get? b = some o → G.get? b = some o := fun b o e => by
    rw [← hG]
    refine hideAll_get _ (up b o e) fun hm => ?_
    rw [List.mem_singleton.mp hm] at e
    exact absurd (Heap.lt_size e) (Nat.not_lt.mpr (Nat.le_succ _))
  refine wpAny_call ?_
  refine S loose mean mg mb (Ad + 1) (Au + 1) Ag (env :: outer) base G _ _ BG (X.keeps st) (T.keeps st) (fun b o e => by rw [← hG] at e; exact of_hideAll _ e) (by rw [← hG]; exact Nat.le_of_eq (hideAll_size _ _)) (fun p hp' => ?_) (by unfold Room; omega) (by unfold Room; omega) ?_ ?_
  · rw [← hG]
    exact ⟨(N2 p hp').1, hideAll_none _ (List.mem_map_of_mem hp')⟩
  · rintro v upd new h' tk' hk hnews - ⟨o', rfl, rfl, ⟨dx, ho'⟩, rfl⟩
    obtain ⟨h1, h2, a, h3⟩ := ho'
    exact ⟨rfl, hq h' _ tk' ⟨fun b o e => hk b o (inG b o e), Heap.get?_none_of_le (Nat.le_succ _), o', _, _, (hnews _ (.head _)).1, h1, h3, rfl, rfl⟩⟩
  · intro e h' tk' _ _ z
    exact z.elim
end
local macro_rules | `(tactic| walk_at "call ref") => `(tactic| (k_here; k_dflt refine se_call (hq := ?_); intros))
def RaisableS (w : World) (E : Value → Shared → Prop) (v : Value) (s₁ : Shared) : Prop :=
  ∃ e oe vs, v = .ref e ∧ (KK w).In s₁.heap ∧ s₁.heap.get? e = some oe ∧ oe.cls = .ref 52 ∧ oe.data = .fields vs ∧ vs[1]? = some .none ∧ E (.ref e) s₁
theorem raisableS_of {w : World} {E : Value → Shared → Prop} {h : Heap} {s₁ : Shared} {e : Addr} (X : (KK w).In h := by exact Frag.In.keeps (by k_asm) (Fr.keep (by k_asm))) (x : NewSE h s₁.heap e := by assumption) (hE : E (.ref e) s₁) : RaisableS w E (.ref e) s₁ := by
  obtain ⟨h1, h2, oe, vs, a0, h3, h4, h5, h6, h7⟩ := x
  exact ⟨e, oe, vs, rfl, X.keeps h1, h3, h4, h5, h6, hE⟩
section
variable {w : World} {A : Around} {E : Value → Shared → Prop} {s : Shared} {env : Env}
theorem raiseS {x : Sem Value} {Q : Flow → Shared → Prop} (hh : A.handled = none)
    (h : wpAny (model PR w) A x (RaisableS w E) E s) : wpAny (model PR w) A (raiseStmt env (some x) none) Q E s := by
  obtain ⟨nm, q, N', bs, hdct, sn, sub, ab, col, dd, k0, k1, k2, k3, k5, hl⟩ := (cls52 w).hC
  have hcB : (Value.ref 52 :: BM).contains (.type "BaseException") = true := by decide
  unfold raiseStmt
  refine wpAny_bind (wpAny_mono h (fun v s₁ h₁ => ?_) fun _ _ x => x)
  obtain ⟨e, ⟨oc, od, dt, sl⟩, vs, rfl, X, he, hc, hd, h1, hE⟩ := h₁
  dsimp only at hc hd
  subst hc hd
  obtain ⟨hp, g, d, tk, os⟩ := s₁
  have hC := X _ _ hl
  repeat (first | with_reducible refine wpAny_loadPart_at he ?_ | with_reducible refine wpAny_loadPart_at hC ?_ | (with_reducible refine wpAny_isSubtype_exc hC ?_; rw [hcB]) | wp_step)
  rw [h1]
  refine wpAny_pure ?_
  rw [if_neg (by decide)]
  exact wpAny_pure (wpAny_raiseNew_none hh hE)
theorem raise_stmt {x : PySem.Expr} {pos : Pos} {Q : Flow → Shared → Prop} (hh : A.handled = none := by exact rfl)
    (h : wpAny (model PR w) A (eval x env) (RaisableS w E) E s) : wpAny (model PR w) A (exec (.Raise (some x) none pos) env) Q E s := by
  rw [arm_exec_Raise]
  exact wpAny_bind (wpAny_standAt (raiseS hh (wpAny_bind (wpAny_mono h (fun v s₃ h₃ => wpAny_bind (wpAny_standAt (wpAny_pure h₃))) fun _ _ x => x))))
end
local macro_rules | `(tactic| walk_at "exec Raise some none") => `(tactic| (k_here; k_dflt refine raise_stmt (h := ?_)))
local macro_rules | `(tactic| walk_at "RaisableS") => `(tactic| (refine raisableS_of (hE := ?_)))
local macro_rules | `(tactic| walk_at "leaving ref") => `(tactic| (k_here; refine leave_newX (hQ := ?_); intro h' R' U'; (try dsimp only at R' U' ⊢)))
theorem fresh_C5 : True := by (w_top off); trivial
def isFig (c : Nat) : Bool := 48 ≤ c && c ≤ 57
def Asc (x : Str) : Prop := ∀ c ∈ x.cps.toList, c < 128
def InvNum (x : Str) (i : Nat) (ys : List Value) (news : Led) : Prop := news = [] ∧ ∃ cs : List Str, CarriedAll ys (cs.map .str) ∧ (∀ c ∈ cs, PyData.strOk c = true) ∧ (cs = [] ↔ ∀ c ∈ x.cps.toList.take i, isFig c = true)
theorem fig_of (c : Nat) : (Builtin.Str.occurrences (Str.ofString "0123456789") ⟨#[c]⟩ 0 (Str.ofString "0123456789").length 1).isEmpty = !isFig c := by
  have h := StrLaws.found_one (Str.ofString "0123456789") c
  have e : (Str.ofString "0123456789").cps.toList = [48, 49, 50, 51, 52, 53, 54, 55, 56, 57] := by decide
  rw [e] at h
  have k : decide (c ∈ [48, 49, 50, 51, 52, 53, 54, 55, 56, 57]) = isFig c := by
    rw [show ([48, 49, 50, 51, 52, 53, 54, 55, 56, 57] : List Nat) = List.range' 48 10 from rfl, Bool.eq_iff_iff]
    simp only [isFig, List.mem_range'_1, decide_eq_true_eq, Bool.and_eq_true]
    omega
  rw [k] at h
  rw [← h, Bool.not_not]

theorem carried_snoc {x : Str} {t : Tok} : ∀ {vs : List Value} {cs : List Str}, CarriedAll vs (cs.map .str) → CarriedAll (vs ++ [.str x t]) ((cs ++ [x]).map .str)
  | _, [], .nil => .cons (.str x t) .nil
  | _, _ :: _, .cons h r => .cons h (carried_snoc r)

theorem num_yes {x : Str} {i c : Nat} {ys : List Value} {u : Tok} (hx : Asc x) (hc : x.cps[i]? = some c) (h : InvNum x i ys []) (hb : isFig c = false) : InvNum x (i + 1) (ys ++ [.str ⟨#[c]⟩ u]) [] := by
  obtain ⟨_, cs, h1, h3, h2⟩ := h
  have hcx : c ∈ x.cps.toList := by
    have : x.cps.toList[i]? = some c := by simpa using hc
    exact List.mem_of_getElem? this
  refine ⟨rfl, cs ++ [⟨#[c]⟩], carried_snoc h1, ?_, ?_⟩
  · intro d hd
    rcases List.mem_append.mp hd with hd | hd
    · exact h3 d hd
    · rw [List.mem_singleton.mp hd]
      have := hx c hcx
      simp [PyData.strOk]; omega
  constructor
  · intro e; simp at e
  · intro e
    have hm : c ∈ x.cps.toList.take (i + 1) := by
      have : x.cps.toList[i]? = some c := by simpa using hc
      rw [List.take_add_one, this]; simp
    rw [e c hm] at hb; cases hb
theorem num_no {x : Str} {i c : Nat} {ys : List Value} (hc : x.cps[i]? = some c) (h : InvNum x i ys []) (hb : isFig c = true) : InvNum x (i + 1) ys [] := by
  obtain ⟨_, cs, h1, h3, h2⟩ := h
  refine ⟨rfl, cs, h1, h3, h2.trans ?_⟩
  have : x.cps.toList[i]? = some c := by simpa using hc
  rw [List.take_add_one, this]
  simp only [Option.toList, List.mem_append, List.mem_singleton]
  constructor
  · rintro h c' (h' | rfl)
    · exact h c' h'
    · exact hb
  · exact fun h c' h' => h c' (.inl h')

theorem same_strs_nil (cs : List Str) : PySem.Spec.same (.list (cs.map .str)) (.list []) = decide (cs = []) := by
  cases cs with
  | nil => rfl
  | cons c r => rfl
theorem shaped_strs (cs : List Str) (hk : ∀ c ∈ cs, PyData.strOk c = true) : SeqAt.shaped (.list (cs.map .str)) = true := by
  have h1 : ∀ cs : List Str, (∀ c ∈ cs, PyData.strOk c = true) → PyData.canLayAll0 (cs.map .str) = true := fun cs => by
    induction cs with
    | nil => intro _; rfl
    | cons c r ih => intro h; simp [PyData.canLayAll0, PyData.canLay0, ih fun d hd => h d (.tail _ hd), h c (.head _)]
  have h2 : ∀ cs : List Str, PyData.depthAll (cs.map .str) = 0 := fun cs => by
    induction cs with
    | nil => rfl
    | cons c r ih => simp [PyData.depthAll, PyData.depth, ih]
  simp [SeqAt.shaped, PyData.canLay0, PyData.depth, h1 cs hk, h2]

theorem strs_ne_nil {w : World} {A : Around} {E : Value → Shared → Prop} {s : Shared} {h₀ : Heap} {L D l : Addr} {led : Led} {ys : List Value} {cs : List Str} {n : Nat} {Q : Value → Shared → Prop} (N : News h₀ L s.heap led) (hD : (D, lst ys) ∈ led) (hl : (l, W.listOf #[] n) ∈ led)
    (hc : CarriedAll ys (cs.map .str)) (hk : ∀ c ∈ cs, PyData.strOk c = true) (hu : A.units + 64 < cLine) (h : Q (.bool (!decide (cs = []))) s) : wpAny (model PR w) A (compareOp .NotEq (.ref D) (.ref l)) Q E s := by
  have hb : Reads s.heap (.ref l) (.list []) [l] := reads_newData (ys := []) (News.isList N hl) .nil
  refine ne_dataH_same (reads_newData (News.isList N hD) hc) hb (shaped_strs cs hk) (by decide) hu (SeqAt.noMix_of_shape (.list .str) rfl _ _ (list_map_has fun _ => rfl) (by decide)) ?_
  rw [same_strs_nil]; exact h

local macro_rules | `(tactic| walk_at "eval ListComp") => `(tactic| (k_here; k_dflt (refine comp_T (F₀ := by k_asm) (by with_unfolding_all rfl) (by decide) (by rfl) (by decide) (by rfl) ?_)))
def numOk (x : Str) : Prop := x.cps.toList ≠ [] ∧ x.cps.toList.length ≤ 10 ∧ (∀ c ∈ x.cps.toList, isFig c = true) ∧ ¬ (1 < x.cps.toList.length ∧ x.cps.toList.head? = some 48)
def numVal (x : Str) : Int := (NumText.digitsVal x.cps.toList : Nat)
theorem len_list (x : Str) : x.length = x.cps.toList.length := by simp [Str.length]
theorem str_empty (x : Str) : (x == Str.ofString "") = decide (x.cps.toList = []) := by
  have e : Str.ofString "" = ⟨#[]⟩ := by decide
  rw [e, Bool.eq_iff_iff, beq_iff_eq, decide_eq_true_eq]
  constructor
  · rintro rfl; rfl
  · intro h; cases x with | mk a => congr 1; exact Array.toList_inj.mp h
theorem item0 {x : Str} (h : 1 < x.length) : (Txt.item x 0 == Str.ofString "0") = decide (x.cps.toList.head? = some 48) := by
  have e : Str.ofString "0" = ⟨#[48]⟩ := by decide
  rw [e, Bool.eq_iff_iff, beq_iff_eq, decide_eq_true_eq]
  rw [len_list] at h
  obtain ⟨c, r, hc⟩ : ∃ c r, x.cps.toList = c :: r := by
    cases q : x.cps.toList with
    | nil => rw [q] at h; simp at h
    | cons c r => exact ⟨c, r, rfl⟩
  have hl : x.length = r.length + 1 := by rw [len_list, hc]; rfl
  have h0 : x.cps[0]? = some c := by rw [← Array.getElem?_toList, hc]; rfl
  have h1 : seqIndex? 0 x.length = some 0 := by
    unfold seqIndex?
    rw [hl]
    simp
  rw [hc]
  unfold Txt.item Txt.charAt
  rw [h1]
  simp [h0]
theorem int_of {x : Str} (hf : ∀ c ∈ x.cps.toList, isFig c = true) (h1 : x.cps.toList ≠ []) (h2 : x.length ≤ 640) : PySem.intText? x = some (numVal x) :=
  PySem.intText_digits (fun c hc => by have := hf c hc; simpa [isFig] using this) h1 (by omega)

theorem number_ok (w : World) (x : Str) (t t' : Tok) (row : Int) (hx : x.length ≤ 1000) (ha : Asc x) :
    Spec0 w 73 [.str x t, .int row t'] [] (fun v new => numOk x ∧ (∃ tk : Tok, v = .int (numVal x) tk) ∧ new = []) (¬ numOk x) 12 200 := by
  unfold Spec0 SpecG KK PR
  k_fill
  intro loose mean mg mb dp un gd envs base g s R B X T hk hsz hp hd hu hret hexc
  (k_dflt refine code_sep (h := ?_)); k_whole; intro L' h' tk' mp F' N'; (try dsimp only [List.nil_append, List.cons_append] at N'); intro ev Ar Mo; (try dsimp only); (try k_fold)
  k_steps
  · have hb := ‹(x == Str.ofString "") = true›
    rw [str_empty] at hb
    exact hexc _ _ _ (by assumption) (by assumption) fun h => h.1 (of_decide_eq_true hb)
  · have hb := ‹(10 : Int) < x.length›
    exact hexc _ _ _ (by assumption) (by assumption) fun h => by have := h.2.1; rw [← len_list] at this; omega
  · have hb := ‹(x == Str.ofString "") = false›
    have hb2 := ‹¬ (10 : Int) < x.length›
    rw [str_empty] at hb
    replace hb := of_decide_eq_false hb
    refine ⟨_, _, _, _, walkt_str rfl, by rw [sizeLine_eq]; exact Nat.le_trans hx (by decide), by assumption, by assumption, trivial, fun gg => ?_⟩
    refine compT_ind (InvNum x) ⟨rfl, [], .nil, (fun c h => nomatch h), by simp⟩ ?_ ?_
    · rintro i ys news v I oI C oC D m₂ h tk E' hi hI ⟨c, u, hc, rfl⟩ hC hx F N off ne
      obtain rfl := hI.1
      (try ((show wpAny _ _ _ _ _ _); k_fold))
      k_steps
      · rename_i hb
        rw [fig_of] at hb
        exact num_yes ha hc hI (by simpa using hb)
      · rename_i hb
        rw [fig_of] at hb
        exact num_no hc hI (by simpa using hb)
    · rintro ys news ⟨rfl, cs, hcs, hks, hiff⟩ D h tk F9 N9 off9
      rw [List.take_of_length_le (by simp)] at hiff
      k_steps
      refine strs_ne_nil (by assumption) (.tail _ (.head _)) (.head _) hcs hks (by k_room) ?_
      k_steps
      · have h2 := ‹(1 : Int) < x.length›
        have h3 := ‹(Txt.item x 0 == Str.ofString "0") = true›
        rw [item0 (by omega)] at h3
        exact hexc _ _ _ (by assumption) (by assumption) fun h => h.2.2.2 ⟨by rw [← len_list]; omega, of_decide_eq_true h3⟩
      · have h1 := ‹cs = []›
        have h3 := ‹(Txt.item x 0 == Str.ofString "0") = false›
        have h2 := ‹(1 : Int) < x.length›
        rw [item0 (by omega)] at h3
        refine W.KIN.call_text (int_of (hiff.mp h1) hb (by omega)) (by omega) ?_
        k_steps
        exact hret _ [] [] _ _ (Fr.keep (by assumption)) (fun _ h => nomatch h) (fun _ h => nomatch h) ⟨rfl, ⟨hb, by rw [← len_list]; omega, hiff.mp h1, fun h => (of_decide_eq_false h3) h.2⟩, ⟨_, rfl⟩, rfl⟩
      · have h1 := ‹cs = []›
        have h2 := ‹¬ (1 : Int) < x.length›
        refine W.KIN.call_text (int_of (hiff.mp h1) hb (by omega)) (by omega) ?_
        k_steps
        exact hret _ [] [] _ _ (Fr.keep (by assumption)) (fun _ h => nomatch h) (fun _ h => nomatch h) ⟨rfl, ⟨hb, by rw [← len_list]; omega, hiff.mp h1, fun h => by have := h.1; rw [← len_list] at this; omega⟩, ⟨_, rfl⟩, rfl⟩
      · have h1 := ‹¬ cs = []›
        exact hexc _ _ _ (by assumption) (by assumption) fun h => h1 (hiff.mpr h.2.2.1)
abbrev cp (x : Str) : List Nat := x.cps.toList
theorem cp_inj {x y : Str} (h : cp x = cp y) : x = y := by
  cases x with | mk a => cases y with | mk b => congr 1; exact Array.toList_inj.mp h
def jn (c : Nat) : List (List Nat) → List Nat
  | [] => []
  | [p] => p
  | p :: q :: r => p ++ c :: jn c (q :: r)
theorem join_jn (c : Nat) : ∀ ps : List Str, cp (Str.join ⟨#[c]⟩ ps) = jn c (ps.map cp)
  | [] => rfl
  | [p] => rfl
  | p :: q :: r => by
    have ih := join_jn c (q :: r)
    show cp (p ++ ⟨#[c]⟩ ++ Str.join ⟨#[c]⟩ (q :: r)) = cp p ++ c :: jn c ((q :: r).map cp)
    rw [← ih]
    show cp (p ++ _ ++ _) = _
    simp [cp, PySem.Str.cps_append]
theorem jn_mem {c : Nat} : ∀ {ps : List (List Nat)} {p : List Nat} {a : Nat}, p ∈ ps → a ∈ p → a ∈ jn c ps
  | [_], _, _, hp, ha => by rw [List.mem_singleton.mp hp] at ha; exact ha
  | p :: q :: r, p', a, hp, ha => by
    show a ∈ p ++ c :: jn c (q :: r)
    rcases List.mem_cons.mp hp with rfl | hp
    · exact List.mem_append_left _ ha
    · exact List.mem_append_right _ (.tail _ (jn_mem hp ha))
theorem pre_inj {c : Nat} : ∀ {p q r s : List Nat}, c ∉ p → c ∉ q → p ++ c :: r = q ++ c :: s → p = q ∧ r = s
  | [], [], r, s, _, _, h => ⟨rfl, (List.cons.inj h).2⟩
  | [], b :: q, r, s, _, h2, h => absurd (List.cons.inj h).1 fun e => h2 (by rw [e]; exact .head _)
  | a :: p, [], r, s, h1, _, h => absurd (List.cons.inj h).1 fun e => h1 (by rw [e]; exact .head _)
  | a :: p, b :: q, r, s, h1, h2, h => by
    obtain ⟨e1, e2⟩ := List.cons.inj h
    obtain ⟨e3, e4⟩ := pre_inj (fun z => h1 (.tail _ z)) (fun z => h2 (.tail _ z)) e2
    exact ⟨by rw [e1, e3], e4⟩
theorem jn_inj {c : Nat} : ∀ {ps qs : List (List Nat)}, ps ≠ [] → qs ≠ [] → (∀ p ∈ ps, c ∉ p) → (∀ p ∈ qs, c ∉ p) → jn c ps = jn c qs → ps = qs
  | [], _, h, _, _, _, _ => absurd rfl h
  | _ :: _, [], _, h, _, _, _ => absurd rfl h
  | [p], [q], _, _, _, _, h => by have h : p = q := h; rw [h]
  | [p], q :: q' :: r, _, _, h1, _, h => absurd (show c ∈ p by have h : p = q ++ c :: jn c (q' :: r) := h; rw [h]; simp) (h1 p (.head _))
  | p :: p' :: r, [q], _, _, _, h2, h => absurd (show c ∈ q by have h : p ++ c :: jn c (p' :: r) = q := h; rw [← h]; simp) (h2 q (.head _))
  | p :: p' :: r, q :: q' :: t, _, _, h1, h2, h => by
    obtain ⟨e1, e2⟩ := pre_inj (h1 p (.head _)) (h2 q (.head _)) h
    have := jn_inj (List.cons_ne_nil _ _) (List.cons_ne_nil _ _) (fun z hz => h1 z (.tail _ hz)) (fun z hz => h2 z (.tail _ hz)) e2
    rw [e1, this]
theorem split_ne (x : Str) (c : Nat) : Txt.split x ⟨#[c]⟩ ≠ [] := by
  unfold Txt.split
  split
  · exact List.cons_ne_nil _ _
  · split
    · exact List.cons_ne_nil _ _
    · rw [StrLaws.partsBetween_eq]
      obtain ⟨p, r, e⟩ := StrLaws.partsFrom_ne x (Str.length ⟨#[c]⟩) 0 (PySem.Builtin.Str.occurrences x ⟨#[c]⟩ 0 x.length (x.length + 1))
      rw [e]
      exact List.cons_ne_nil _ _
theorem split_cp (x : Str) (c : Nat) : cp x = jn c ((Txt.split x ⟨#[c]⟩).map cp) := by
  rw [← join_jn, StrLaws.join_split]
theorem split_of {x : Str} {c : Nat} {L : List (List Nat)} (h0 : L ≠ []) (hf : ∀ p ∈ L, c ∉ p) (h : cp x = jn c L) : (Txt.split x ⟨#[c]⟩).map cp = L := by
  refine jn_inj (c := c) (by simpa using split_ne x c) h0 ?_ hf ?_
  · intro p hp
    obtain ⟨q, hq, rfl⟩ := List.mem_map.mp hp
    exact StrLaws.split_free x c q hq
  · rw [← split_cp, h]
theorem map_cp_inj : ∀ {a b : List Str}, a.map cp = b.map cp → a = b
  | [], [], _ => rfl
  | [], _ :: _, h => by cases h
  | _ :: _, [], h => by cases h
  | x :: a, y :: b, h => by
    simp only [List.map_cons, List.cons.injEq] at h
    rw [cp_inj h.1, map_cp_inj h.2]
theorem asc_item {x p : Str} {c : Nat} (ha : Asc x) (hp : p ∈ Txt.split x ⟨#[c]⟩) : Asc p := fun a h => ha a (by
  show a ∈ cp x
  rw [split_cp x c]
  exact jn_mem (List.mem_map_of_mem hp) h)
def rangeL (a b : Int) : List Int := (List.range (b - a).toNat).map fun (i : Nat) => a + (i : Int)
theorem ints_of_items {a : Int} : ∀ (n : Nat) (base : Nat) (ws : List Value), ws.length = n → (∀ j v, ws[j]? = some v → ∃ t : Tok, v = Value.int (a + ((base + j : Nat) : Int) * 1) t) → IntsAre ws ((List.range' base n).map fun (i : Nat) => a + (i : Int))
  | 0, _, [], _, _ => .nil
  | n + 1, base, v :: r, hl, h => by
    obtain ⟨t, rfl⟩ := h 0 v rfl
    have ih := ints_of_items n (base + 1) r (by simpa using hl) fun j v hv => by
      obtain ⟨t, e⟩ := h (j + 1) v (by simpa using hv)
      exact ⟨t, by rw [e]; congr 3; omega⟩
    rw [List.range'_succ, List.map_cons]
    have e : a + ((base + 0 : Nat) : Int) * 1 = a + (base : Int) := by simp
    rw [e]
    exact .cons _ _ ih
section
variable {prog : Program} {w : World} {A : Around} {E : Value → Shared → Prop} {s : Shared} {h₀ : Heap} {L : Addr} {led : Led} {m : Str → Option Value}
theorem shift_walk {I : Addr} {fp wr : List Addr} {G : Array GenState → Array GenState → Prop} {n n0 : Nat} {P P0 : Nat → Value → Prop} {St : Nat → Shared → Prop} (W : WalksS prog w A I fp wr G n P St) :
    WalksS prog w A I fp wr G (n0 + n) (fun i v => (i < n0 ∧ P0 i v) ∨ (n0 ≤ i ∧ P (i - n0) v)) (fun i s => n0 ≤ i ∧ St (i - n0) s) where
  sub := W.sub
  grefl := W.grefl
  gtrans := W.gtrans
  frame := fun i s h' tk st ht hb => ⟨st.1, W.frame _ s h' tk st.2 ht hb⟩
  item := fun i s Q E hi st hQ => W.item (i - n0) s Q E (by have := st.1; omega) st.2 fun v s' hp hs hm => hQ v s' (.inr ⟨st.1, hp⟩) ⟨by have := st.1; omega, by rw [show i + 1 - n0 = i - n0 + 1 by have := st.1; omega]; exact hs⟩ hm
  done := fun s Q E st hQ => W.done s Q E (by have := st.2; rwa [show n0 + n - n0 = n by omega] at this) hQ
  self := fun i s Q E st hQ => W.self (i - n0) s Q E st.2 hQ

theorem my_extend {D r : Addr} {vf : List Value} {k : Nat} {a b : Int} {t u v : Tok} {gl : Obj → Led} {Q : Value → Shared → Prop} (hh : A.handled = none) (F : Fr h₀ L s.heap m) (N : News h₀ L s.heap led) (U : UpdF D (listO vf k) led gl)
    (hr : IsRange s.heap r a b 1 t u v) (hsm : Builtin.Range.small a b 1 = true) (hsz : vf.length + (b - a).toNat < 2 ^ 24)
    (h : ∀ ws k' h' tk, IntsAre ws (rangeL a b) → Fr h₀ L h' m → News h₀ L h' (gl (listO (vf ++ ws) k')) → Q .none { s with heap := h', toks := tk }) :
    wpAny (model prog w) A (call (.builtin "list.extend") [.ref D, .ref r]) Q E s := by
  obtain ⟨pre, post, e1, e2, p1, p2⟩ := U.split
  have hS := (N (D, listO vf k) (by rw [e1]; exact List.mem_append_right _ (.head _)))
  have hT : s.TypeIs (.ref D) "list" := ⟨_, hS.1, rfl⟩
  have hDr : D ≠ r := fun e => by rw [e, hr] at hS; simp at hS
  have hDlt : D < s.heap.objs.size := Heap.lt_size hS.1
  have hDI : D ≠ s.heap.objs.size := Nat.ne_of_lt hDlt
  have hn : Builtin.Range.rangeSize a b 1 = ((b - a).toNat : Int) := rangeSize_nat a b
  -- what the end gives
  have fin : ∀ h' tk acc' c', (∀ b o, b ≠ D → s.heap.get? b = some o → h'.get? b = some o) → h'.get? D = some { cls := .type "list", dict := none, data := .seq acc' c', slots := #[] } →
      ItemsOf (fun i v => (i < vf.length ∧ vf[i]? = some v) ∨ (vf.length ≤ i ∧ ∃ t : Tok, v = Value.int (a + ((i - vf.length : Nat) : Int) * 1) t)) acc' (vf.length + (b - a).toNat) → Q .none { s with heap := h', toks := tk } := by
    intro h' tk acc' c' hk hD hacc
    have hlen : acc'.toList.length = vf.length + (b - a).toNat := by simpa using hacc.1
    have hsplit : acc'.toList = vf ++ acc'.toList.drop vf.length := by
      have : acc'.toList.take vf.length = vf := by
        apply List.ext_getElem?
        intro i
        by_cases hi : i < vf.length
        · rw [List.getElem?_take_of_lt hi]
          have hi2 : i < acc'.toList.length := by omega
          have hv : acc'[i]? = some acc'.toList[i] := by rw [← Array.getElem?_toList, List.getElem?_eq_getElem hi2]
          rcases hacc.2 i _ hv with z | z
          · rw [List.getElem?_eq_getElem hi2, z.2]
          · omega
        · rw [List.getElem?_eq_none (by simp; omega), List.getElem?_eq_none (by omega)]
      rw [← this]
      simp only [List.length_take, Nat.min_eq_left (show vf.length ≤ acc'.toList.length by omega)]
      rw [List.take_append_drop]
    have hints : IntsAre (acc'.toList.drop vf.length) (rangeL a b) := by
      unfold rangeL
      rw [List.range_eq_range']
      refine ints_of_items (b - a).toNat 0 _ (by rw [List.length_drop]; omega) fun j v hv => ?_
      rw [List.getElem?_drop] at hv
      rcases hacc.2 (vf.length + j) v (by rw [← Array.getElem?_toList]; exact hv) with z | ⟨_, t, z⟩
      · omega
      · exact ⟨t, by rw [z]; congr 3; omega⟩
    obtain ⟨oL, es, ep, hL, hLr⟩ := F.ns
    have hDL : D ≠ L := hS.2.1
    refine h _ c' h' tk hints ⟨⟨oL, es, ep, hk _ _ (Ne.symm hDL) hL, hLr⟩, fun b o e => hk b o (fun e' => by rw [e', hS.2.2] at e; cases e) (F.keep b o e), F.above⟩ (fun p hp => ?_)
    rw [e2] at hp
    rcases List.mem_append.mp hp with h1 | h1
    · exact ⟨hk _ _ (p1 p h1) (N p (by rw [e1]; exact List.mem_append_left _ h1)).1, (N p (by rw [e1]; exact List.mem_append_left _ h1)).2⟩
    · rcases List.mem_cons.mp h1 with rfl | h1
      · refine ⟨?_, hS.2⟩
        show h'.get? D = some (listO (vf ++ _) c')
        rw [hD, ← hsplit]
      · exact ⟨hk _ _ (p2 p h1) (N p (by rw [e1]; exact List.mem_append_right _ (.tail _ h1))).1, (N p (by rw [e1]; exact List.mem_append_right _ (.tail _ h1))).2⟩
  have W := shift_walk (n0 := vf.length) (P0 := fun i v => vf[i]? = some v) (Walks.range (prog := prog) (w := w) (A := A.in1) hh s.heap.objs.size a 1 (b - a).toNat).toS
  have key : ∀ (h : Heap) (c₁ tk : Nat), IsRangeIter h s.heap.objs.size (a + ((0 : Nat) : Int) * 1) (((b - a).toNat : Int) - ((0 : Nat) : Int)) 1 → (∀ b o, b ≠ D → s.heap.get? b = some o → h.get? b = some o) →
      h.get? D = some { cls := .type "list", data := .seq vf.toArray c₁ } → codeAny (model prog w) A (.builtin "list.extend.loop" ⟨[.ref D, .ref s.heap.objs.size, .none], []⟩) (fun r s' => match r with | .ok (.ret v) => Q v s' | .ok _ => False | .error e => E e s') { s with heap := h, toks := tk } := by
    intro h c₁ tk hit hk hS₁
    refine codeAny_extend_loopS W (by rw [sizeLine_eq]; omega) D (fun hm => hDI (List.mem_singleton.mp hm)) .none (b - a).toNat vf.length _ vf.toArray c₁ (by omega) (by omega) ⟨Nat.le_refl _, by rw [Nat.sub_self]; exact hit⟩ hS₁ ⟨by simp, fun j v hv => .inl ⟨?_, by simpa using hv⟩⟩ fun s' acc' c' hm hS' hacc => ?_
    · have : j < vf.toArray.size := (Array.getElem?_eq_some_iff.mp hv).1
      simpa using this
    · rw [Moved.eq_with hm]
      refine fin s'.heap s'.toks acc' c' (fun b o hb e => hm.heap b o (fun hmem => ?_) (hk b o hb e)) hS' hacc
      rcases List.mem_cons.mp hmem with e' | hmem
      · exact hb e'
      · exact absurd (Heap.lt_size e) (by rw [List.mem_singleton.mp hmem]; exact Nat.lt_irrefl _)
  refine wpAny_call (codeAny_call_builtin PySem.F.slot_list_extend.plain PySem.F.entry_list_extend (PySem.F.slot_list_extend.check _ _ _ _ _ _ _ _ hT (PySem.F.args_list_extend_2 _ _) ?_))
  show wpAny _ _ (Builtin.List.listExtendWith (.ref D) (.ref r) .none) _ _ s
  unfold Builtin.List.listExtendWith
  refine wpAny_bind (wpAny_typeOf (T := "range") ⟨_, hr, rfl⟩ ?_)
  have h1 : Builtin.List.listSameRef (.ref D) (.ref r) = false := by simp [Builtin.List.listSameRef, hDr]
  have h2 : (Value.type "range" == Value.type "list") = false := by decide
  have h3 : (Value.type "range" == Value.type "tuple") = false := by decide
  simp only [h1, h2, h3, Bool.or_false, Bool.false_eq_true, if_false]
  refine wpAny_bind (wpAny_pyIter_range hr hsm ?_)
  refine wpAny_bind (wpAny_holding (wpAny_hint_range (n := (b - a).toNat) (Heap.get?_push_of_some _ hr) hn (by omega) ?_))
  have hit₁ : IsRangeIter (s.heap.push { cls := .type "range_iterator", data := .fields #[rawInt a, rawInt (Builtin.Range.rangeSize a b 1), rawInt 1] }) s.heap.objs.size (a + ((0 : Nat) : Int) * 1) (((b - a).toNat : Int) - ((0 : Nat) : Int)) 1 := by
    show IsRangeIter _ _ _ _ _; rw [hn]; simpa using Heap.get?_push_size _ rfl
  have hS₁ := Heap.get?_push_of_some { cls := .type "range_iterator", data := .fields #[rawInt a, rawInt (Builtin.Range.rangeSize a b 1), rawInt 1] } hS.1
  refine wpAny_ite_split (fun _ => ?_) (fun _ => wpAny_pure ⟨plainId_quiet PySem.F.plain_extend_loop _, key _ k _ hit₁ (fun b o _ e => Heap.get?_push_of_some _ e) hS₁⟩)
  refine wpAny_bind (wpAny_rule ?_)
  refine wpAny_bind ?_
  show wpAny _ _ (updateSeq D (·.push .none) >>= fun _ => updateSeq D (·.pop)) _ _ _
  refine wpAny_bind (wpAny_updateSeq (hz := by rw [sizeLine_eq]; simp; omega) hS₁ rfl ?_)
  have hS₂ := Heap.get?_update_self (Obj.mapSeq (·.push Value.none)) hS₁ rfl
  refine wpAny_updateSeq (hz := by rw [sizeLine_eq]; simp; omega) hS₂ rfl ?_
  have hS₃ := Heap.get?_update_self (Obj.mapSeq (·.pop)) hS₂ rfl
  refine wpAny_pure ⟨plainId_quiet PySem.F.plain_extend_loop _, key _ _ _ ?_ (fun b o hb e => ?_) (by simpa [Obj.mapSeq] using hS₃)⟩
  · exact (Heap.get?_update_other _ _ hDI).trans ((Heap.get?_update_other _ _ hDI).trans hit₁)
  · exact (Heap.get?_update_other _ _ (Ne.symm hb)).trans ((Heap.get?_update_other _ _ (Ne.symm hb)).trans (Heap.get?_push_of_some _ e))
end
theorem digits_bound : ∀ (cs : List Nat) (a : Nat), (∀ c ∈ cs, isFig c = true) → cs.foldl (fun acc c => acc * 10 + (c - 48)) a < (a + 1) * 10 ^ cs.length
  | [], a, _ => by simp
  | c :: cs, a, h => by
    have hc : c - 48 ≤ 9 := by have := h c (.head _); simp [isFig] at this; omega
    have ih := digits_bound cs (a * 10 + (c - 48)) fun d hd => h d (.tail _ hd)
    refine Nat.lt_of_lt_of_le ih ?_
    rw [List.length_cons, Nat.pow_succ', ← Nat.mul_assoc]
    exact Nat.mul_le_mul_right _ (by omega)
theorem numVal_lt {x : Str} (h : numOk x) : 0 ≤ numVal x ∧ numVal x < 10000000000 := by
  have h1 := digits_bound (cp x) 0 h.2.2.1
  have h2 : 10 ^ (cp x).length ≤ 10 ^ 10 := Nat.pow_le_pow_right (by decide) h.2.1
  unfold numVal NumText.digitsVal
  simp only [Nat.zero_add, Nat.one_mul, cp] at h1 h2
  omega
theorem small_num {a b : Int} (ha : 0 ≤ a ∧ a < 10000000000) (hb : 0 ≤ b ∧ b < 10000000000) : Builtin.Range.small a (b + 1) 1 = true := by
  have f : ∀ i : Int, 0 ≤ i ∧ i < 20000000000 → Builtin.Range.rangeFitsLong i = true := fun i h => by simp [Builtin.Range.rangeFitsLong]; omega
  unfold Builtin.Range.small
  have e := rangeSize_nat a (b + 1)
  simp [f a (by omega), f (b + 1) (by omega), f 1 (by omega), f (Builtin.Range.rangeSize a (b + 1) 1) (by rw [e]; omega)]
theorem last_int {prog : Program} {w : World} {A : Around} {E : Value → Shared → Prop} {s : Shared} {value slice : PySem.Expr} {D : Addr} {vf : List Value} {fs : List Int} {u : Tok} {Q : Value → Shared → Prop} (hl : s.heap.IsList D vf.toArray := by is_list)
    (hi : IntsAre vf fs := by assumption) (h0 : fs ≠ [] := by exact of_decide_eq_false (by assumption)) (h2 : fs.length < 2 ^ 62 := by omega) (h : ∀ t : Tok, Q (.int (fs.getLastD 0) t) s)
    (hs : subscripted slice false (.ref D) (.int (-1) u) = operate [.ref D, .int (-1) u] (getItem (.ref D) (.int (-1) u)) := by with_unfolding_all rfl) :
    wpAny (model prog w) A (subscriptTail value slice (.ref D) (.int (-1) u)) Q E s := by
  have key : ∀ {vf : List Value} {fs : List Int}, IntsAre vf fs → vf.length = fs.length ∧ (fs ≠ [] → ∃ t : Tok, vf[fs.length - 1]? = some (Value.int (fs.getLastD 0) t)) := by
    intro vf fs h
    induction h with
    | nil => exact ⟨rfl, fun h => absurd rfl h⟩
    | @cons n t vs ns h ih =>
      refine ⟨by simp [ih.1], fun _ => ?_⟩
      cases ns with
      | nil => cases h; exact ⟨t, rfl⟩
      | cons a r => obtain ⟨t', e⟩ := ih.2 (List.cons_ne_nil _ _); exact ⟨t', e⟩
  obtain ⟨t, e⟩ := (key hi).2 h0
  have hlen := (key hi).1
  have hp : 0 < fs.length := List.length_pos_iff.mpr h0
  refine tail_any hl.typeIs slot_list_getitem.lookup (wpAny_getItem_list_neg hl (by decide) (by simp [hlen]; omega) (by decide) (x := .int (fs.getLastD 0) t) ?_ (h t)) hs
  simp only [List.size_toArray, hlen, List.getElem?_toArray]
  rw [show ((-1 : Int) + (fs.length : Nat)).toNat = fs.length - 1 by omega]
  exact e
local macro_rules | `(tactic| walk_at "subscriptTail") => `(tactic| ((with_reducible refine at_sub (-1) ?_); k_dflt refine last_int (h := ?_); intros))
theorem rangeL_len (a b : Int) : (rangeL a b).length = (b - a).toNat := by simp [rangeL]
theorem my_extend' {prog : Program} {w : World} {A : Around} {E : Value → Shared → Prop} {s : Shared} {h₀ : Heap} {L : Addr} {led : Led} {m : Str → Option Value} {D r : Addr} {vf : List Value} {fs : List Int} {k : Nat} {a b : Int} {t u v : Tok} {gl : Obj → Led} {Q : Value → Shared → Prop} (hh : A.handled = none) (F : Fr h₀ L s.heap m) (N : News h₀ L s.heap led) (U : UpdF D (listO vf k) led gl)
    (hr : IsRange s.heap r a b 1 t u v) (hi : IntsAre vf fs) (hsm : Builtin.Range.small a b 1 = true) (hsz : fs.length + (b - a).toNat < 2 ^ 24)
    (h : ∀ vf' k' h' tk, IntsAre vf' (fs ++ rangeL a b) → Fr h₀ L h' m → News h₀ L h' (gl (listO vf' k')) → Q .none { s with heap := h', toks := tk }) :
    wpAny (model prog w) A (call (.builtin "list.extend") [.ref D, .ref r]) Q E s :=
  my_extend hh F N U hr hsm (by rw [IntsAre.length hi]; exact hsz) fun ws k' h' tk hw F' N' => h _ k' h' tk (IntsAre.append hi hw) F' N'
theorem fresh_C6 : True := by (w_top off); trivial
def Stop (P : Prop) : Prop := P
theorem Stop.mk {P : Prop} (h : Stop P) : P := h
section
variable {M : Model} {prog : Program} {w : World} {A A' : Around} {E E' : Value → Shared → Prop} {Q : Value → Shared → Prop} {Qf : Flow → Shared → Prop} {s : Shared} {a : Addr} {x : Str} {t : Tok} {h₀ : Heap} {env : Env} {body : List Stmt}
theorem stop_call {n : Addr} {args : List Value} {kw : List (Str × Value)} (h : Stop (wpAny M A (call (.ref n) args kw) Q E s)) : wpAny M A (call (.ref n) args kw) Q E s := h
theorem stop_other {n : Addr} {args : List Value} {kw : List (Str × Value)} (_ : (Nat.beq n 132 || Nat.beq n 139) = false) (h : Stop (wpAny M A (call (.ref n) args kw) Q E s)) : wpAny M A (call (.ref n) args kw) Q E s := h
theorem stop_iterV (h : Stop (wpAny M A (pyIter (.ref a)) (fun it s₂ => LoopAtV prog w A' h₀ env x body Qf E' it s₂) E s)) : wpAny M A (pyIter (.ref a)) (fun it s₂ => LoopAtV prog w A' h₀ env x body Qf E' it s₂) E s := h
end

/-- the frame's map, some names forgotten -/
def tm (temps : List Str) (u m₀ : Str → Option Value) : Str → Option Value := fun y => if y ∈ temps then u y else m₀ y
theorem tm_eq {temps : List Str} {m' m₀ : Str → Option Value} (h : ∀ y, y ∉ temps → m' y = m₀ y) : m' = tm temps m' m₀ := by
  funext y
  unfold tm
  by_cases hy : y ∈ temps
  · rw [if_pos hy]
  · rw [if_neg hy]; exact h y hy

section
variable {prog : Program} {w : World} {A : Around} {E : Value → Shared → Prop} {s : Shared} {env : Env} {h₀ : Heap} {x : Str} {body : List Stmt} {Q : Flow → Shared → Prop}
theorem UnrPost.imp {L : Addr} {s₁ s₂ : Shared} {I : Addr} {it : Obj} {r r' : (Str → Option Value) → Led → Prop} {f : Flow} (h : UnrPost h₀ L s₁ I it r Q f s₂) (hr : ∀ m n, r m n → ∃ n', (∀ p ∈ n', p ∈ n) ∧ r' m n') : UnrPost h₀ L s₁ I it r' Q f s₂ := by
  have key : UnrEnd h₀ L s₁ I it r s₂ → UnrEnd h₀ L s₁ I it r' s₂ := fun ⟨h', tk, m', news', e, F, N, o, z⟩ =>
    let ⟨n', hs, z'⟩ := hr _ _ z
    ⟨h', tk, m', n', e, F, fun p hp => by
      rcases List.mem_cons.mp hp with rfl | hp
      · exact N _ (.head _)
      · exact N _ (.tail _ (hs _ hp)), fun p hp => o p (hs p hp), z'⟩
  cases f with
  | ret v => exact h
  | brk => exact h
  | next => exact key h
  | cont => exact key h
/-- a smaller ledger will do -/
def Shrink (lp : Addr × Obj) (P : Led → Prop) (n : Led) : Prop := ∃ n', (∀ p ∈ n', p ∈ n) ∧ lp ∈ n' ∧ P n'

theorem listRest_ind {I : Addr} {lp : Addr × Obj} {vs : List Value} {m : Str → Option Value} {news : Led} (Inv : Nat → (Str → Option Value) → Led → Prop) (h0 : Inv 0 m news)
    (turn : ∀ i v m news (it : Obj) h tk, vs[i]? = some v → Inv i m news → it.cls = .type "list_iterator" → Fr h₀ env.locals h (fun y => if y = x then some v else m y) → News h₀ env.locals h ((I, it) :: news) →
      wpAny (model prog w) A (execs body env) (UnrPost h₀ env.locals { s with heap := h, toks := tk } I it (fun m' n' => lp ∈ n' ∧ Shrink lp (Inv (i + 1) m') n') Q) E { s with heap := h, toks := tk })
    (fin : ∀ m news h tk, Inv vs.length m news → Fr h₀ env.locals h m → News h₀ env.locals h news → Q .next { s with heap := h, toks := tk }) :
    ListRest prog w A E h₀ env x body Q s I lp vs m news := by
  have key : ∀ rs i m news, vs.drop i = rs → Inv i m news → i + rs.length = vs.length → ListRest prog w A E h₀ env x body Q s I lp rs m news := by
    intro rs
    induction rs with
    | nil =>
      intro i m news hd hI hl
      refine ListRest.zero fun h tk F N => fin m news h tk ?_ F N
      obtain rfl : i = vs.length := by simpa using hl
      exact hI
    | cons v rs ih =>
      intro i m news hd hI hl
      have hi : i < vs.length := by simp at hl; omega
      have hv : vs[i]? = some v := by
        rw [List.drop_eq_getElem_cons hi] at hd
        rw [List.getElem?_eq_getElem hi]
        exact congrArg some (List.cons.inj hd).1
      have hr : vs.drop (i + 1) = rs := by
        rw [List.drop_eq_getElem_cons hi] at hd
        exact (List.cons.inj hd).2
      refine ListRest.succ fun it h tk hc F N => ?_
      refine wpAny_mono (turn i v m news it h tk hv hI hc F N) (fun f s₂ z => ?_) fun _ _ z => z
      exact UnrPost.imp z fun m' n' ⟨_, n'', z0, z1, z2⟩ => ⟨n'', z0, z1, ih (i + 1) m' n'' hr z2 (by simp at hl ⊢; omega)⟩
  exact key vs 0 m news rfl h0 (by simp)
end

def numOkB (x : Str) : Bool := !x.cps.toList.isEmpty && decide (x.cps.toList.length ≤ 10) && x.cps.toList.all isFig && !(decide (1 < x.cps.toList.length) && x.cps.toList.head? == some 48)
theorem numOk_iff (x : Str) : numOk x ↔ numOkB x = true := by
  unfold numOk numOkB
  simp only [Bool.and_eq_true, Bool.not_eq_true', List.isEmpty_eq_false_iff, decide_eq_true_eq, List.all_eq_true, Bool.and_eq_false_iff, decide_eq_false_iff_not, beq_eq_false_iff_ne, ne_eq]
  constructor
  · rintro ⟨h1, h2, h3, h4⟩
    exact ⟨⟨⟨h1, h2⟩, h3⟩, by by_cases h : 1 < x.cps.toList.length; exact .inr fun e => h4 ⟨h, e⟩; exact .inl h⟩
  · rintro ⟨⟨⟨h1, h2⟩, h3⟩, h4⟩
    exact ⟨h1, h2, h3, fun ⟨a, b⟩ => h4.elim (fun z => z a) fun z => z b⟩
def numStep (acc : Option (List Int)) (part : Str) : Option (List Int) := acc.bind fun fs =>
  let ends := Txt.split part (Str.ofString "-")
  if 2 < ends.length then none
  else if !(numOkB (ends.headD Str.empty) && numOkB (ends.getLastD Str.empty)) then none
  else
    let low := numVal (ends.headD Str.empty)
    let high := numVal (ends.getLastD Str.empty)
    if decide (high < low) || decide (5000 < high - low) || (!fs.isEmpty && decide (low ≤ fs.getLastD 0)) then none
    else if 5000 < (fs ++ rangeL low (high + 1)).length then none
    else some (fs ++ rangeL low (high + 1))
def numsOf (x : Str) : Option (List Int) := if x == Str.ofString "none" then some [] else (Txt.split x (Str.ofString ",")).foldl numStep (some [])

def InvNs (x : Str) (D l : Addr) (vs : List Value) (m₀ : Str → Option Value) (i : Nat) (m : Str → Option Value) (news : Led) : Prop :=
  ∃ u fs vf k, m = tm ["part", "ends", "low", "high"] u m₀ ∧ news = [(D, listO vs 0), (l, listO vf k)] ∧ IntsAre vf fs ∧ fs.length ≤ 5000 ∧ ((Txt.split x (Str.ofString ",")).take i).foldl numStep (some []) = some fs
@[elab_as_elim] theorem InvNs.out {x : Str} {D l : Addr} {vs : List Value} {m₀ : Str → Option Value} {i : Nat} {G : (Str → Option Value) → Led → Prop} (m : Str → Option Value) (nw : Led) (H : InvNs x D l vs m₀ i m nw)
    (h : ∀ u fs vf k, IntsAre vf fs → fs.length ≤ 5000 → ((Txt.split x (Str.ofString ",")).take i).foldl numStep (some []) = some fs → let m1 := tm ["part", "ends", "low", "high"] u m₀; G m1 [(D, listO vs 0), (l, listO vf k)]) : G m nw := by
  obtain ⟨u, fs, vf, k, rfl, rfl, a, b, c⟩ := H
  exact h u fs vf k a b c
theorem InvNs.mk {x : Str} {D l : Addr} {vs vf : List Value} {m₀ m u : Str → Option Value} {i k : Nat} {fs : List Int} (hm : m = tm ["part", "ends", "low", "high"] u m₀) (a : IntsAre vf fs) (b : fs.length ≤ 5000)
    (c : ((Txt.split x (Str.ofString ",")).take i).foldl numStep (some []) = some fs) : InvNs x D l vs m₀ i m [(D, listO vs 0), (l, listO vf k)] := ⟨u, fs, vf, k, hm, rfl, a, b, c⟩
theorem strs_at {l : List (Str × Tok)} {ps : List Str} {i : Nat} {v : Value} (h : l.map (fun x => x.fst) = ps) (hv : (strValues l)[i]? = some v) : ∃ p t, ps[i]? = some p ∧ v = .str p t ∧ p ∈ l.map (fun x => x.fst) := by
  subst h
  unfold strValues at hv
  rw [List.getElem?_map] at hv
  cases q : l[i]? with
  | none => rw [q] at hv; cases hv
  | some z =>
    rw [q] at hv
    refine ⟨z.1, z.2, by simp [q], by injection hv with hv; exact hv.symm, List.mem_map_of_mem (List.mem_of_getElem? q)⟩

theorem lt_nat {h : Heap} {a : Addr} {o : Obj} (e : h.get? a = some o) : @LT.lt Nat _ a h.objs.size := Heap.lt_size e
theorem ne_cls {h : Heap} {a b : Addr} {o o' : Obj} (e : h.get? a = some o) (e' : h.get? b = some o') (hc : o.cls ≠ o'.cls) : @Ne Nat a b := fun z => by
  rw [show a = b from z, e'] at e
  cases e
  exact hc rfl
theorem asc_at {p q : Str} {l : List (Str × Tok)} {i : Nat} (hi : (l.map (fun x => x.fst))[i]? = some q) (h : l.map (fun x => x.fst) = Txt.split p (Str.ofString "-")) (ha : Asc p) : Asc q :=
  asc_item (c := 45) ha (by rw [h] at hi; exact List.mem_of_getElem? hi)
theorem len_at {p q : Str} {l : List (Str × Tok)} {i : Nat} (hi : (l.map (fun x => x.fst))[i]? = some q) (h : ∀ a : Str, a ∈ l.map (fun x => x.fst) → a.length ≤ p.length) (ha : p.length ≤ 1000) : q.length ≤ 1000 :=
  Nat.le_trans (h q (List.mem_of_getElem? hi)) ha
section
variable {w : World} {f : Addr} {vs : List Value} {rd led : Led} {Exc : Prop} {d u : Nat} {A₀ A : Around} {base h₀ : Heap} {outer : List Env} {L : Addr} {m : Str → Option Value} {env : Env} {s : Shared} {Q E : Value → Shared → Prop}
  {loose : List Str} {mean : ExcName → Option Value} {mg mb : Str → Option Value}
theorem useI {P : Prop} {n : Int} (S : Spec0 w f vs rd (fun v new => P ∧ (∃ tk : Tok, v = .int n tk) ∧ new = []) Exc d u)
  (ret : ∀ t h' tk', Fr h₀ L h' m → News h₀ L h' led → P → Q (.int n t) { s with heap := h', toks := tk' })
  (exc : ∀ e g h' tk', Fr h₀ L g m → RaisedSN base g (env :: outer) e (.ref 52) [] h' → g.UpToSlots h' → Exc → E (.ref e) { s with heap := h', toks := tk' })
  (F : Fr h₀ L s.heap m := by k_asm) (N : News h₀ L s.heap led := by k_asm) (B : Below A₀ base outer h₀ := by k_asm) (X : (KK w).In h₀ := by k_asm) (T : Top topProg loose mean mg mb h₀ := by k_asm)
  (hA : A.frames = some (env :: outer) := by rfl) (hh : A.handled = none := by rfl) (hf : env.frame = some L := by rfl) (hke : env.scope.kind = .function := by rfl)
  (hsub : SubL rd led := by k_subL) (hd : A.depth + d < recursionLimit := by k_room) (hu : A.units + u < cLine := by k_room) : wpAny (model PR w) A (call (.ref f) vs) Q E s :=
  spec_use0 S B F X N T hA hh hf hke hsub hd hu (fun _ _ h' tk' F' N' _ ⟨p, ⟨t, e1⟩, e2⟩ => by subst e1 e2; exact ret t h' tk' F' N' p) (fun e g h' tk' F' _ r q x => exc e g h' tk' F' r q x)
end
section
variable {w : World} {A₀ A : Around} {base h₀ : Heap} {outer : List Env} {L : Addr} {m : Str → Option Value} {env : Env} {s : Shared} {Q E : Value → Shared → Prop}
  {loose : List Str} {mean : ExcName → Option Value} {mg mb : Str → Option Value} {led : Led} {gl : Obj → Led}
theorem call73 {x : Str} {t t1 : Tok} {row : Int}
  (ret : ∀ t2 h' tk', Fr h₀ L h' m → News h₀ L h' led → numOk x → Q (.int (numVal x) t2) { s with heap := h', toks := tk' })
  (exc : ∀ e g h' tk', Fr h₀ L g m → RaisedSN base g (env :: outer) e (.ref 52) [] h' → g.UpToSlots h' → ¬ numOk x → E (.ref e) { s with heap := h', toks := tk' })
  (F : Fr h₀ L s.heap m := by k_asm) (N : News h₀ L s.heap led := by k_asm) (B : Below A₀ base outer h₀ := by k_asm) (X : (KK w).In h₀ := by k_asm) (T : Top topProg loose mean mg mb h₀ := by k_asm)
  (hA : A.frames = some (env :: outer) := by rfl) (hh : A.handled = none := by rfl) (hf : env.frame = some L := by rfl) (hke : env.scope.kind = .function := by rfl) (hsub : SubL [] led := by k_subL) (hd : A.depth + 12 < recursionLimit := by k_room) (hu : A.units + 200 < cLine := by k_room) (hx : x.length ≤ 1000 := by first | assumption | exact len_at (by assumption) (by assumption) (by assumption) | omega) (ha : Asc x := by first | assumption | exact asc_at (by assumption) (by assumption) (by assumption)) : wpAny (model PR w) A (call (.ref 73) [.str x t, .int row t1]) Q E s :=
  useI (number_ok w x t t1 row hx ha) ret exc F N B X T hA hh hf hke hsub hd hu
end
local macro_rules | `(tactic| walk_at "call ref") => `(tactic| (k_here; k_dflt refine call73 ?_ ?_; all_goals (intros; k_sweep)))
-- an exception of a callee's goes on
local macro_rules | `(tactic| walk_at "leaving ref") => `(tactic| (k_here; k_dflt (refine leave_onSN (by assumption) (by assumption) (by assumption) (by assumption) ?_; k_whole); intro h' R' _ U'; (try dsimp only at R' U' ⊢)))

theorem split_pos {p : Str} {l : List (Str × Tok)} (h : l.map (fun x => x.fst) = Txt.split p (Str.ofString "-")) : 0 < l.length := by
  have := split_ne p 45
  rw [← (show Str.ofString "-" = ⟨#[45]⟩ by decide), ← h] at this
  exact List.length_pos_iff.mpr fun e => this (by rw [e]; rfl)
theorem last_str {prog : Program} {w : World} {A : Around} {E : Value → Shared → Prop} {s : Shared} {value slice : PySem.Expr} {D : Addr} {l : List (Str × Tok)} {u : Tok} {Q : Value → Shared → Prop} (hl : s.heap.IsList D (strValues l).toArray := by is_list)
    (h0 : 0 < l.length := by exact split_pos (by assumption)) (h : ∀ y t, (l.map (fun x => x.fst))[l.length - 1]? = some y → Q (.str y t) s)
    (hs : subscripted slice false (.ref D) (.int (-1) u) = operate [.ref D, .int (-1) u] (getItem (.ref D) (.int (-1) u)) := by with_unfolding_all rfl) :
    wpAny (model prog w) A (subscriptTail value slice (.ref D) (.int (-1) u)) Q E s := by
  have hi : l.length - 1 < l.length := by omega
  have hz : (strValues l).toArray.size = l.length := by simp [strValues]
  refine tail_any hl.typeIs slot_list_getitem.lookup (wpAny_getItem_list_neg hl (by decide) (by rw [hz]; omega) (by decide) (x := .str l[l.length - 1].1 l[l.length - 1].2) ?_ (h _ _ (by rw [List.getElem?_map, List.getElem?_eq_getElem hi]; rfl))) hs
  rw [hz, show ((-1 : Int) + (l.length : Nat)).toNat = l.length - 1 by omega]
  simp only [strValues, List.getElem?_toArray, List.getElem?_map, List.getElem?_eq_getElem hi]
  rfl
local macro_rules | `(tactic| walk_at "subscriptTail") => `(tactic| ((with_reducible refine at_sub (-1) ?_); k_dflt refine last_str (h := ?_); intros))

theorem my_ext {prog : Program} {w : World} {A : Around} {E : Value → Shared → Prop} {s : Shared} {h₀ : Heap} {L : Addr} {led : Led} {m : Str → Option Value} {D r : Addr} {vf : List Value} {fs : List Int} {k : Nat} {p q : Str} {t u v : Tok} {gl : Obj → Led} {Q : Value → Shared → Prop}
    (h : ∀ vf' k' h' tk, IntsAre vf' (fs ++ rangeL (numVal p) (numVal q + 1)) → Fr h₀ L h' m → News h₀ L h' (gl (listO vf' k')) → vf'.length = fs.length + (numVal q + 1 - numVal p).toNat → Q .none { s with heap := h', toks := tk })
    (hh : A.handled = none := by rfl) (F : Fr h₀ L s.heap m := by k_asm) (N : News h₀ L s.heap led := by k_asm) (U : UpdF D (listO vf k) led gl := by k_updF)
    (hr : IsRange s.heap r (numVal p) (numVal q + 1) 1 t u v := by assumption) (hi : IntsAre vf fs := by assumption) (hp : numOk p := by assumption) (hq : numOk q := by assumption) (hsz : fs.length + (numVal q + 1 - numVal p).toNat < 2 ^ 24 := by omega) :
    wpAny (model prog w) A (call (.builtin "list.extend") [.ref D, .ref r]) Q E s :=
  my_extend' hh F N U hr hi (small_num (numVal_lt hp) (numVal_lt hq)) hsz fun vf' k' h' tk hw F' N' => h vf' k' h' tk hw F' N' (by rw [IntsAre.length hw, List.length_append, rangeL_len])
local macro_rules | `(tactic| walk_at "call builtin:list.extend") => `(tactic| (k_here; k_dflt refine my_ext ?_; intros; k_sweep))

section
variable {x p y1 y2 : Str} {l : List (Str × Tok)} {fs : List Int}
theorem num_a (h2 : 2 < (l.length : Int)) (h : l.map (fun x => x.fst) = Txt.split p (Str.ofString "-")) : numStep (some fs) p = none := by
  have : 2 < (Txt.split p (Str.ofString "-")).length := by rw [← h, List.length_map]; omega
  simp [numStep, this]
theorem ends_head (hd : (l.map (fun x => x.fst))[Int.toNat 0]? = some y1) (h : l.map (fun x => x.fst) = Txt.split p (Str.ofString "-")) : (Txt.split p (Str.ofString "-")).headD Str.empty = y1 := by
  rw [← h]
  cases q : l.map (fun x => x.fst) with
  | nil => rw [q] at hd; cases hd
  | cons a r => rw [q] at hd; simpa using hd
theorem ends_last (hl : (l.map (fun x => x.fst))[l.length - 1]? = some y2) (h : l.map (fun x => x.fst) = Txt.split p (Str.ofString "-")) : (Txt.split p (Str.ofString "-")).getLastD Str.empty = y2 := by
  rw [← h, List.getLastD_eq_getLast?, List.getLast?_eq_getElem?, List.length_map, hl]
  rfl
theorem num_b (hn : ¬ numOk y1) (hd : (l.map (fun x => x.fst))[Int.toNat 0]? = some y1) (h : l.map (fun x => x.fst) = Txt.split p (Str.ofString "-")) : numStep (some fs) p = none := by
  have e := ends_head hd h
  have : numOkB y1 = false := by simpa using mt (numOk_iff y1).mpr hn
  simp only [numStep, Option.bind_some, e, this, Bool.false_and, Bool.not_false, if_true, ite_self]
theorem num_c (hn : ¬ numOk y2) (hl : (l.map (fun x => x.fst))[l.length - 1]? = some y2) (h : l.map (fun x => x.fst) = Txt.split p (Str.ofString "-")) : numStep (some fs) p = none := by
  have e := ends_last hl h
  have : numOkB y2 = false := by simpa using mt (numOk_iff y2).mpr hn
  simp only [numStep, Option.bind_some, e, this, Bool.and_false, Bool.not_false, if_true, ite_self]
theorem num_lt (hc : numVal y2 < numVal y1) (hl : (l.map (fun x => x.fst))[l.length - 1]? = some y2) (hd : (l.map (fun x => x.fst))[Int.toNat 0]? = some y1) (h : l.map (fun x => x.fst) = Txt.split p (Str.ofString "-")) : numStep (some fs) p = none := by
  simp only [numStep, Option.bind_some, ends_head hd h, ends_last hl h, decide_eq_true hc, Bool.true_or, if_true, ite_self]
theorem num_gap (hc : 5000 < numVal y2 - numVal y1) (hl : (l.map (fun x => x.fst))[l.length - 1]? = some y2) (hd : (l.map (fun x => x.fst))[Int.toNat 0]? = some y1) (h : l.map (fun x => x.fst) = Txt.split p (Str.ofString "-")) : numStep (some fs) p = none := by
  simp only [numStep, Option.bind_some, ends_head hd h, ends_last hl h, decide_eq_true hc, Bool.true_or, Bool.or_true, if_true, ite_self]
theorem fs_ne (hz : decide (fs = []) = false) : fs.isEmpty = false := by cases fs with | nil => cases hz | cons _ _ => rfl
theorem num_le (hc : numVal y1 ≤ fs.getLastD 0) (hz : decide (fs = []) = false) (hd : (l.map (fun x => x.fst))[Int.toNat 0]? = some y1) (h : l.map (fun x => x.fst) = Txt.split p (Str.ofString "-")) : numStep (some fs) p = none := by
  simp only [numStep, Option.bind_some, ends_head hd h, decide_eq_true hc, fs_ne hz, Bool.not_false, Bool.true_and, Bool.or_true, if_true, ite_self]
theorem num_big {n : Nat} (hc : 5000 < (n : Int)) (hn : n = fs.length + (numVal y2 + 1 - numVal y1).toNat) (hl : (l.map (fun x => x.fst))[l.length - 1]? = some y2) (hd : (l.map (fun x => x.fst))[Int.toNat 0]? = some y1) (h : l.map (fun x => x.fst) = Txt.split p (Str.ofString "-")) : numStep (some fs) p = none := by
  have e : 5000 < (fs ++ rangeL (numVal y1) (numVal y2 + 1)).length := by rw [List.length_append, rangeL_len]; omega
  simp only [numStep, Option.bind_some, ends_head hd h, ends_last hl h, e, if_true, ite_self]
theorem num_ok (hw : decide (fs = []) = true ∨ ¬ numVal y1 ≤ fs.getLastD 0) (c1 : ¬ numVal y2 < numVal y1) (c2 : ¬ 5000 < numVal y2 - numVal y1) {n : Nat} (hc : ¬ 5000 < (n : Int)) (hn : n = fs.length + (numVal y2 + 1 - numVal y1).toNat)
    (o1 : numOk y1) (o2 : numOk y2) (hl : (l.map (fun x => x.fst))[l.length - 1]? = some y2) (hd : (l.map (fun x => x.fst))[Int.toNat 0]? = some y1) (h : l.map (fun x => x.fst) = Txt.split p (Str.ofString "-")) (h2 : ¬ 2 < (l.length : Int)) :
    numStep (some fs) p = some (fs ++ rangeL (numVal y1) (numVal y2 + 1)) := by
  have e : ¬ 5000 < (fs ++ rangeL (numVal y1) (numVal y2 + 1)).length := by rw [List.length_append, rangeL_len]; omega
  have e2 : ¬ 2 < (Txt.split p (Str.ofString "-")).length := by rw [← h, List.length_map]; omega
  have e3 : (!fs.isEmpty && decide (numVal y1 ≤ fs.getLastD 0)) = false := by
    rcases hw with z | z
    · rw [of_decide_eq_true z]; rfl
    · rw [decide_eq_false z, Bool.and_false]
  simp only [numStep, Option.bind_some, ends_head hd h, ends_last hl h, e, e2, e3, (numOk_iff _).mp o1, (numOk_iff _).mp o2, decide_eq_false c1, decide_eq_false c2, Bool.and_self, Bool.not_true, Bool.or_self, Bool.false_eq_true, if_false]
theorem num_len {n : Nat} (hc : ¬ 5000 < (n : Int)) (hn : n = fs.length + (numVal y2 + 1 - numVal y1).toNat) : (fs ++ rangeL (numVal y1) (numVal y2 + 1)).length ≤ 5000 := by rw [List.length_append, rangeL_len]; omega
theorem fold_none (ps : List Str) : ps.foldl numStep none = none := by
  induction ps with
  | nil => rfl
  | cons p r ih => exact ih
theorem num_fail {i : Nat} (hs : numStep (some fs) p = none) (hx : (x == Str.ofString "none") = false) (hp : (Txt.split x (Str.ofString ","))[i]? = some p) (hf : ((Txt.split x (Str.ofString ",")).take i).foldl numStep (some []) = some fs) : numsOf x = none := by
  unfold numsOf
  rw [if_neg (by rw [hx]; decide)]
  have hi : i < (Txt.split x (Str.ofString ",")).length := (List.getElem?_eq_some_iff.mp hp).1
  rw [← List.take_append_drop i (Txt.split x (Str.ofString ",")), List.foldl_append, hf, List.drop_eq_getElem_cons hi, List.foldl_cons]
  have : (Txt.split x (Str.ofString ","))[i] = p := (List.getElem?_eq_some_iff.mp hp).2
  rw [this, hs, fold_none]
theorem num_step {i : Nat} {fs' : List Int} (hs : numStep (some fs) p = some fs') (hp : (Txt.split x (Str.ofString ","))[i]? = some p) (hf : ((Txt.split x (Str.ofString ",")).take i).foldl numStep (some []) = some fs) : ((Txt.split x (Str.ofString ",")).take (i + 1)).foldl numStep (some []) = some fs' := by
  rw [List.take_add_one, hp, List.foldl_append, hf]
  exact hs
theorem num_end {L : List Value} (hx : (x == Str.ofString "none") = false) (hl : L.length = (Txt.split x (Str.ofString ",")).length) (hf : ((Txt.split x (Str.ofString ",")).take L.length).foldl numStep (some []) = some fs) : numsOf x = some fs := by
  unfold numsOf
  rw [if_neg (by rw [hx]; decide)]
  rw [hl, List.take_length] at hf
  exact hf
theorem tm_neg {temps : List Str} {u m₀ : Str → Option Value} {y : Str} (h : y ∉ temps) : tm temps u m₀ y = m₀ y := if_neg h
end

theorem sub_cons {p : Addr × Obj} {l all : Led} (h : p ∈ all) (r : ∀ q ∈ l, q ∈ all) : ∀ q ∈ p :: l, q ∈ all := fun q hq => by
  rcases List.mem_cons.mp hq with rfl | hq
  · exact h
  · exact r q hq
theorem ne_cons {p : Addr × Obj} {l : Led} {I : Addr} (h : @Ne Nat p.1 I) (r : ∀ q ∈ l, @Ne Nat q.1 I) : ∀ q ∈ p :: l, @Ne Nat q.1 I := fun q hq => by
  rcases List.mem_cons.mp hq with rfl | hq
  · exact h
  · exact r q hq
section
variable {x : Str} {temps : List Str} {m m₀ u : Str → Option Value} {x' : Str} {v' : Option Value}
theorem mp_tm : ∀ y, y ∉ temps → tm temps u m₀ y = m₀ y := fun _ h => if_neg h
theorem mp_id : ∀ y, y ∉ temps → m₀ y = m₀ y := fun _ _ => rfl
theorem mp_cons (hx : x' ∈ temps) (h : ∀ y, y ∉ temps → m y = m₀ y) : ∀ y, y ∉ temps → (if y = x' then v' else m y) = m₀ y := fun y hy => (if_neg fun e : y = x' => hy (e ▸ hx)).trans (h y hy)
theorem mq_tm : ∀ y, y ≠ x → y ∉ temps → tm temps u m₀ y = m₀ y := fun _ _ h => if_neg h
theorem mq_id : ∀ y, y ≠ x → y ∉ temps → m₀ y = m₀ y := fun _ _ _ => rfl
theorem mq_x (h : ∀ y, y ≠ x → y ∉ temps → m y = m₀ y) : ∀ y, y ≠ x → y ∉ temps → (if y = x then v' else m y) = m₀ y := fun y hx hy => (if_neg hx).trans (h y hx hy)
theorem mq_cons (hx : x' ∈ temps) (h : ∀ y, y ≠ x → y ∉ temps → m y = m₀ y) : ∀ y, y ≠ x → y ∉ temps → (if y = x' then v' else m y) = m₀ y := fun y hn hy => (if_neg fun e : y = x' => hy (e ▸ hx)).trans (h y hn hy)
end
section
local macro_rules | `(tactic| walk_at "pyIter ref") => `(tactic| (with_reducible refine stop_iterV ?_))
theorem numbers_ok (w : World) (x : Str) (t t' : Tok) (row : Int) (hx : x.length ≤ 1000) (ha : Asc x) :
    Spec0 w 80 [.str x t, .int row t'] [] (fun v new => ∃ ns vs l, numsOf x = some ns ∧ v = .ref l ∧ new = [(l, tupO vs)] ∧ IntsAre vs ns) (numsOf x = none) 24 400 := by
  unfold Spec0 SpecG KK PR
  k_fill
  intro loose mean mg mb dp un gd envs base g s R B X T hk hsz hp hd hu hret hexc
  (k_dflt refine code_sep (h := ?_)); k_whole; intro L' h' tk' mp F' N'; (try dsimp only [List.nil_append, List.cons_append] at N'); intro ev Ar Mo; (try dsimp only); (try k_fold)
  k_steps
  · exact hret _ [] [_] _ _ (Fr.keep (by assumption)) (out_news (by assumption) fun _ h => h) (fun _ _ _ h => nomatch h) ⟨rfl, [], [], _, if_pos (by assumption), rfl, rfl, .nil⟩
  · have hlD := lt_nat (‹News g _ _ [(_, W.listOf #[] 0)]› _ (.head _)).1
    refine iter_listUnr (lo := listO _ _) (by rfl) (by assumption) (by assumption) (.head _) rfl rfl fun I hI => ?_
    refine listRest_ind (InvNs x _ _ _ _) ⟨_, [], [], 0, (tm_eq (by intro y hy; rfl)), rfl, .nil, Nat.zero_le _, rfl⟩ ?_ ?_
    · intro i v m news it h tk hv hI
      refine InvNs.out m news hI ?_
      clear hI
      intro u fs vf k hints hlen hfold m1 hit F N
      obtain ⟨p, t, hp, rfl, hpm⟩ := strs_at ‹_› hv
      have hpx : p.length ≤ x.length := by first | exact (by assumption : ∀ a : Str, a ∈ List.map (fun x : Str × Tok => x.fst) _ → a.length ≤ x.length) p hpm
      have hpl : p.length ≤ 1000 := Nat.le_trans hpx hx
      have hpa : Asc p := asc_item (c := 44) ha (List.mem_of_getElem? hp)
      have q1 := lt_nat (N _ (.head _)).1
      have q2 := lt_nat (N _ (.tail _ (.tail _ (.head _)))).1
      have q3 := ne_cls (N _ (.head _)).1 (N _ (.tail _ (.tail _ (.head _)))).1 (by rw [hit]; exact (by decide : Value.type "list_iterator" ≠ Value.type "list"))
      (try ((show wpAny _ _ _ _ _ _); k_fold))
      k_steps
      all_goals first
        | exact hexc _ _ _ (by assumption) (by assumption) (num_fail (num_a (by assumption) (by assumption)) (by assumption) hp hfold)
        | exact hexc _ _ _ (by assumption) (by assumption) (num_fail (num_b (by assumption) (by assumption) (by assumption)) (by assumption) hp hfold)
        | exact hexc _ _ _ (by assumption) (by assumption) (num_fail (num_c (by assumption) (by assumption) (by assumption)) (by assumption) hp hfold)
        | exact hexc _ _ _ (by assumption) (by assumption) (num_fail (num_lt (by assumption) (by assumption) (by assumption) (by assumption)) (by assumption) hp hfold)
        | exact hexc _ _ _ (by assumption) (by assumption) (num_fail (num_gap (by assumption) (by assumption) (by assumption) (by assumption)) (by assumption) hp hfold)
        | exact hexc _ _ _ (by assumption) (by assumption) (num_fail (num_le (by assumption) (by assumption) (by assumption) (by assumption)) (by assumption) hp hfold)
        | exact hexc _ _ _ (by assumption) (by assumption) (num_fail (num_big (by assumption) (by assumption) (by assumption) (by assumption) (by assumption)) (by assumption) hp hfold)
        | skip
      all_goals exact ⟨[(_, listO (strValues _) 0), (_, listO _ _)], (by (repeat' first | exact List.forall_mem_nil _ | refine sub_cons (by k_mem) ?_ | (intro q hq; k_mem))), .head _, InvNs.mk (by (refine tm_eq ?_; repeat' first | with_reducible exact mp_id | exact mp_tm | refine mp_cons (by k_mem) ?_ | exact mp_id)) (by assumption) (num_len (by assumption) (by assumption)) (num_step (num_ok (by first | exact .inl (by assumption) | exact .inr (by assumption)) (by assumption) (by assumption) (by assumption) (by assumption) (by assumption) (by assumption) (by assumption) (by assumption) (by assumption) (by assumption)) hp hfold)⟩
    · intro m news h tk hI
      refine InvNs.out m news hI ?_
      clear hI
      intro u fs vf k hints hlen hfold m1 F N
      (try ((show wpAny _ _ _ _ _ _); k_fold))
      k_steps
      have hL : ∀ l' : List (Str × Tok), l'.map (fun x => x.fst) = Txt.split x (Str.ofString ",") → (strValues l').length = (Txt.split x (Str.ofString ",")).length := fun l' e => by
        rw [← e, strValues, List.length_map, List.length_map]
      exact hret _ [] [(_, tupO vf)] _ _ (Fr.keep (by assumption)) (out_news (by assumption) fun _ h => by rw [List.mem_singleton.mp h]; k_mem) (fun _ _ _ h => nomatch h) ⟨rfl, fs, vf, _, num_end (by assumption) (hL _ (by assumption)) hfold, rfl, rfl, hints⟩
end
def subst1 (c : Nat) (z : List Nat) (x : List Nat) : List Nat := x.flatMap fun a => if a = c then z else [a]
theorem subst1_free {c : Nat} {z : List Nat} : ∀ {p : List Nat}, c ∉ p → subst1 c z p = p
  | [], _ => rfl
  | a :: p, h => by
    have ha : a ≠ c := fun e => h (by rw [e]; exact .head _)
    have ih := subst1_free (z := z) (p := p) fun hp => h (.tail _ hp)
    unfold subst1 at ih ⊢
    rw [List.flatMap_cons, if_neg ha, ih]
    rfl
theorem join_subst {c : Nat} {z : Str} : ∀ (ps : List Str), (∀ p ∈ ps, c ∉ cp p) → cp (Str.join z ps) = subst1 c (cp z) (jn c (ps.map cp))
  | [], _ => rfl
  | [p], h => by
    show cp p = subst1 c (cp z) (cp p)
    rw [subst1_free (h p (.head _))]
  | p :: q :: r, h => by
    have ih := join_subst (z := z) (q :: r) fun s hs => h s (.tail _ hs)
    show cp (p ++ z ++ Str.join z (q :: r)) = subst1 c (cp z) (cp p ++ c :: jn c ((q :: r).map cp))
    have e : cp (p ++ z ++ Str.join z (q :: r)) = cp p ++ (cp z ++ cp (Str.join z (q :: r))) := by simp [cp, PySem.Str.cps_append]
    rw [e, ih]
    have f := subst1_free (z := cp z) (h p (.head _))
    unfold subst1 at f ⊢
    rw [List.flatMap_append, List.flatMap_cons, if_pos rfl, f]
theorem cp_replace (x z : Str) (c : Nat) : cp (Txt.replace x ⟨#[c]⟩ z) = subst1 c (cp z) (cp x) := by
  rw [StrLaws.replace_one, join_subst _ (StrLaws.split_free x c), ← split_cp]
theorem subst1_len {c : Nat} {z : List Nat} : ∀ (x : List Nat), (subst1 c z x).length ≤ x.length * (z.length + 1)
  | [] => Nat.zero_le _
  | a :: r => by
    have ih := subst1_len (c := c) (z := z) r
    unfold subst1 at ih ⊢
    rw [List.flatMap_cons, List.length_append, List.length_cons, Nat.add_mul, Nat.one_mul]
    have : (if a = c then z else [a]).length ≤ z.length + 1 := by split <;> simp
    omega
/-- what one turn of a loop leaves -/
def TurnEnd (h₀ : Heap) (L : Addr) (s₁ : Shared) (I : Addr) (it : Obj) (keep : Led) (r : (Str → Option Value) → Led → Prop) (s₂ : Shared) : Prop :=
  ∃ h' tk m' nw, s₂ = { s₁ with heap := h', toks := tk } ∧ Fr h₀ L h' m' ∧ News h₀ L h' ((I, it) :: nw) ∧ (∀ p ∈ nw, @Ne Nat p.1 I) ∧ (∀ p ∈ keep, p ∈ nw) ∧ r m' nw
def TurnPost (h₀ : Heap) (L : Addr) (s₁ : Shared) (I : Addr) (it : Obj) (keep : Led) (r : (Str → Option Value) → Led → Prop) (Q : Flow → Shared → Prop) (f : Flow) (s₂ : Shared) : Prop :=
  match f with
  | .ret v => Q (.ret v) s₂
  | .brk => Q .next s₂
  | _ => TurnEnd h₀ L s₁ I it keep r s₂
section
variable {h₀ h' : Heap} {L I : Addr} {s₁ : Shared} {it : Obj} {keep : Led} {r : (Str → Option Value) → Led → Prop} {Q : Flow → Shared → Prop} {tk : Nat} {m' : Str → Option Value} {all : Led}
theorem TurnEnd.mk (nw : Led) (F : Fr h₀ L h' m') (N : News h₀ L h' all) (hI : (I, it) ∈ all) (hs : ∀ p ∈ nw, p ∈ all) (hne : ∀ p ∈ nw, @Ne Nat p.1 I) (hk : ∀ p ∈ keep, p ∈ nw) (hr : r m' nw) :
    TurnEnd h₀ L s₁ I it keep r { s₁ with heap := h', toks := tk } :=
  ⟨h', tk, m', nw, rfl, F, fun p hp => by
    rcases List.mem_cons.mp hp with rfl | hp
    · exact N _ hI
    · exact N _ (hs p hp), hne, hk, hr⟩
end

structure Src (prog : Program) (w : World) (A : Around) (E : Value → Shared → Prop) (xv : Value) (s₁ : Shared) (n : Nat) (P : Nat → Value → Prop) (keep : Led) : Prop where
  ex : ∃ (o : Obj) (fp : List Addr) (St : Nat → Heap → Prop),
    (∀ Q : Value → Shared → Prop, Q (.ref s₁.heap.objs.size) { s₁ with heap := s₁.heap.push o } → wpAny (model prog w) A (pyIter xv) Q E s₁) ∧
    Walks prog w A s₁.heap.objs.size fp [s₁.heap.objs.size] n P St ∧ St 0 (s₁.heap.push o) ∧ (∀ b ∈ fp, b = s₁.heap.objs.size ∨ ∃ ob, (b, ob) ∈ keep) ∧ s₁.heap.objs.size ∈ fp ∧
    (∀ i h, St i h → ∃ o, h.get? s₁.heap.objs.size = some o)

section
variable {prog : Program} {w : World} {A : Around} {E : Value → Shared → Prop} {s₁ : Shared} {h₀ : Heap} {L : Addr} {led : Led}
theorem src_str {x : Str} {t : Tok} (hh : A.handled = none) : Src prog w A E (.str x t) s₁ x.cps.size (SignAt x) [] := by
  constructor
  cases ha : x.cps.all (· < 128)
  · exact ⟨_, _, _, fun Q hQ => wpAny_pyIter_wide ha hQ, Walks.strWide hh _ x t, ⟨_, Heap.get?_push_size _ rfl, rfl, rfl⟩, fun b hb => .inl (List.mem_singleton.mp hb), .head _, fun i h st => let ⟨o, e, _⟩ := st; ⟨o, e⟩⟩
  · exact ⟨_, _, _, fun Q hQ => wpAny_pyIter_ascii ha hQ, Walks.strAscii hh _ x t, ⟨_, Heap.get?_push_size _ rfl, rfl, rfl⟩, fun b hb => .inl (List.mem_singleton.mp hb), .head _, fun i h st => let ⟨o, e, _⟩ := st; ⟨o, e⟩⟩
theorem src_tup {l : Addr} {vs : List Value} (hh : A.handled = none) (N : News h₀ L s₁.heap led) (hm : (l, tupO vs) ∈ led) :
    Src prog w A E (.ref l) s₁ vs.length (fun i v => vs[i]? = some v) [(l, tupO vs)] := by
  constructor
  have hl := (N _ hm).1
  have hlt : l < s₁.heap.objs.size := Heap.lt_size hl
  have ht : s₁.heap.IsTuple l vs.toArray := ⟨_, hl, rfl, _, rfl⟩
  have W := Walks.tuple (prog := prog) (w := w) hh s₁.heap.objs.size l (Nat.ne_of_lt hlt) vs.toArray
  have e : (fun (i : Nat) (v : Value) => vs.toArray[i]? = some v) = fun i v => vs[i]? = some v := by funext i v; simp
  rw [e] at W
  refine ⟨_, _, _, fun Q hQ => wpAny_pyIter_tuple ht hQ, W, ⟨⟨_, Heap.get?_push_size _ rfl, rfl, rfl⟩, ⟨_, Heap.get?_push_of_some _ hl, rfl, _, rfl⟩⟩, ?_, .head _, fun i h st => let ⟨⟨o, e, _⟩, _⟩ := st; ⟨o, e⟩⟩
  intro b hb
  simp only [List.mem_cons, List.not_mem_nil, or_false] at hb
  rcases hb with rfl | rfl
  · exact .inl rfl
  · exact .inr ⟨_, .head _⟩
theorem src_range {r : Addr} {a b : Int} {t u v : Tok} (hh : A.handled = none) (hr : IsRange s₁.heap r a b 1 t u v) (hsm : Builtin.Range.small a b 1 = true) :
    Src prog w A E (.ref r) s₁ (b - a).toNat (fun i v => ∃ t : Tok, v = .int (a + (i : Nat) * 1) t) [] := by
  constructor
  have hn : Builtin.Range.rangeSize a b 1 = ((b - a).toNat : Int) := rangeSize_nat a b
  refine ⟨_, _, _, fun Q hQ => wpAny_pyIter_range hr hsm hQ, Walks.range hh s₁.heap.objs.size a 1 (b - a).toNat, ?_, fun b hb => .inl (List.mem_singleton.mp hb), .head _, fun i h st => ⟨_, st⟩⟩
  show IsRangeIter _ _ _ _ _
  rw [hn]; simpa using Heap.get?_push_size _ rfl
end

section
variable {prog : Program} {w : World} {A : Around} {E : Value → Shared → Prop} {s : Shared} {h₀ : Heap} {env : Env} {x : Str} {body : List Stmt} {Q : Flow → Shared → Prop} {m₀ : Str → Option Value} {news keep : Led} {n : Nat} {P : Nat → Value → Prop} {xv : Value}
theorem for_src (S : Src prog w A E xv s n P keep) (F : Fr h₀ env.locals s.heap m₀) (N : News h₀ env.locals s.heap news) (hk : ∀ p ∈ keep, p ∈ news)
    (Inv : Nat → (Str → Option Value) → Led → Prop) (h0 : Inv 0 m₀ news)
    (turn : ∀ I i v m nw it h tk, i < n → P i v → Inv i m nw → (∀ p ∈ nw, @Ne Nat p.1 I) → (∀ p ∈ keep, p ∈ nw) → Fr h₀ env.locals h (fun y => if y = x then some v else m y) → News h₀ env.locals h ((I, it) :: nw) →
      wpAny (model prog w) A (execs body env) (TurnPost h₀ env.locals { s with heap := h, toks := tk } I it keep (Inv (i + 1)) Q) E { s with heap := h, toks := tk })
    (fin : ∀ m nw h tk, Inv n m nw → Fr h₀ env.locals h m → News h₀ env.locals h nw → Q .next { s with heap := h, toks := tk }) :
    wpAny (model prog w) A (pyIter xv) (fun it s₂ => LoopAtV prog w A h₀ env x body Q E it s₂) E s := by
  obtain ⟨o, fp, St, hit, W, hst, hfp, hIf, hSt⟩ := S.ex
  refine hit _ ?_
  have hnew := next_is_new F
  have up : ∀ b o', s.heap.get? b = some o' → (s.heap.push o).get? b = some o' := fun b o' e => Heap.get?_push_of_some _ e
  let J : Nat → (Str → Option Value) → Led → Prop := fun i m₁ nw => (∀ p ∈ keep, p ∈ nw) ∧ Inv i m₁ nw
  have offI : ∀ {nw : Led}, (∀ p ∈ nw, p.1 ∉ [s.heap.objs.size]) → ∀ p ∈ nw, @Ne Nat p.1 s.heap.objs.size := fun h p hp e => h p hp (List.mem_singleton.mpr e)
  refine ⟨s.heap.objs.size, fp, _, n, P, St, m₀, news, J, rfl, W, ?_, ?_, ?_, hst, F.push _, (fun p hp => ⟨up _ _ (N p hp).1, (N p hp).2⟩), ⟨hk, h0⟩, ?_, ?_⟩
  · intro hm
    rcases hfp _ hm with e | ⟨ob, e⟩
    · exact absurd F.ns.lt (e ▸ Nat.lt_irrefl _)
    · exact (N _ (hk _ e)).2.1 rfl
  · intro b hb
    rw [List.mem_singleton.mp hb]; exact hnew
  · intro p hp hI
    exact absurd (Heap.lt_size (N p hp).1) ((List.mem_singleton.mp hI) ▸ Nat.lt_irrefl _)
  · rintro i v m₁ nw s₁ own ⟨hh', tk', rfl⟩ hin hP ⟨hkm, hJ⟩ hoff hown hget hall hst F₁ N₁
    obtain ⟨it, hitI⟩ := hSt _ _ hst
    have hmemI := hall s.heap.objs.size hIf hnew _ hitI
    have N₂ : News h₀ env.locals hh' ((s.heap.objs.size, it) :: nw) := fun p hp => by
      rcases List.mem_cons.mp hp with rfl | hp
      · exact N₁ _ (List.mem_append_left _ hmemI)
      · exact N₁ _ (List.mem_append_right _ hp)
    refine wpAny_mono (turn s.heap.objs.size i v m₁ nw it hh' tk' hin hP hJ (offI hoff) hkm F₁ N₂) (fun f s₂ p => ?_) fun _ _ e => e
    have fin' : TurnEnd h₀ env.locals { s with heap := hh', toks := tk' } s.heap.objs.size it keep (Inv (i + 1)) s₂ → LoopStepU h₀ env.locals [s.heap.objs.size] own (J (i + 1)) { s with heap := hh', toks := tk' } .next s₂ := by
      rintro ⟨h', tk, m', nw', e, F', N', ho, hk', r⟩
      refine ⟨rfl, h', tk, m', nw', e, F', fun p hp => ?_, fun p hp hI => ho p hp (List.mem_singleton.mp hI), hk', r⟩
      rcases List.mem_append.mp hp with hp | hp
      · have h2 : hh'.get? p.1 = some p.2 := hget p hp
        rcases hfp _ (hown p hp) with h1 | ⟨ob, h1⟩
        · have h3 : p = (s.heap.objs.size, it) := by
            rw [h1, hitI] at h2
            exact Prod.ext h1 (Option.some.inj h2).symm
          rw [h3]; exact N' _ (.head _)
        · have h3 : p = (p.1, ob) := by
            rw [(N₂ _ (.tail _ (hkm _ h1))).1] at h2
            exact Prod.ext rfl (Option.some.inj h2).symm
          rw [h3]; exact N' _ (.tail _ (hk' _ h1))
      · exact N' _ (.tail _ hp)
    cases f with
    | ret v => exact p
    | brk => exact p
    | next => exact LoopStepV.ofU (fin' p)
    | cont => exact fin' p
  · rintro h' tk m' nw F' N' _ ⟨_, hJ⟩
    exact fin m' nw h' tk hJ F' N'
end
section
variable {prog : Program} {w : World} {A : Around} {E : Value → Shared → Prop} {s : Shared} {h₀ : Heap} {env : Env} {x : Str} {body : List Stmt} {Q : Flow → Shared → Prop} {m₀ : Str → Option Value} {news keep : Led} {n : Nat} {P : Nat → Value → Prop} {xv : Value}
/-- the invariant speaks of the map at the loop's start -/
theorem for_srcM (Inv : (Str → Option Value) → Nat → (Str → Option Value) → Led → Prop) (F : Fr h₀ env.locals s.heap m₀) (N : News h₀ env.locals s.heap news) (S : Src prog w A E xv s n P keep) (hk : ∀ p ∈ keep, p ∈ news)
    (h0 : Inv m₀ 0 m₀ news)
    (turn : ∀ I i v m nw it h tk, i < n → P i v → Inv m₀ i m nw → (∀ p ∈ nw, @Ne Nat p.1 I) → (∀ p ∈ keep, p ∈ nw) → Fr h₀ env.locals h (fun y => if y = x then some v else m y) → News h₀ env.locals h ((I, it) :: nw) →
      wpAny (model prog w) A (execs body env) (TurnPost h₀ env.locals { s with heap := h, toks := tk } I it keep (Inv m₀ (i + 1)) Q) E { s with heap := h, toks := tk })
    (fin : ∀ m nw h tk, Inv m₀ n m nw → Fr h₀ env.locals h m → News h₀ env.locals h nw → Q .next { s with heap := h, toks := tk }) :
    wpAny (model prog w) A (pyIter xv) (fun it s₂ => LoopAtV prog w A h₀ env x body Q E it s₂) E s := for_src S F N hk (Inv m₀) h0 turn fin
end
@[elab_as_elim] theorem tok_of {f : Tok → Value} {G : Value → Prop} (v : Value) (H : ∃ t, v = f t) (h : ∀ t, G (f t)) : G v := by
  obtain ⟨t, rfl⟩ := H
  exact h t
-- a tail of the ledger that is not written out
local macro_rules | `(tactic| k_all) => `(tactic| assumption)
local macro_rules | `(tactic| k_mem) => `(tactic| (show (_ : Addr × Obj) ∈ (_ : List (Addr × Obj)); with_reducible assumption))
theorem my_append {prog : Program} {w : World} {A : Around} {E : Value → Shared → Prop} {s : Shared} {h₀ : Heap} {L D : Addr} {m : Str → Option Value} {news news' : Led} {vs : List Value} {n : Nat} {x : Value} {Q : Value → Shared → Prop} (F : Fr h₀ L s.heap m := by k_asm) (N : News h₀ L s.heap news := by k_asm)
    (U : Upd D (listO vs n) (listO (vs ++ [x]) (n + 1)) news news' := by k_upd) (hsz : vs.length ≤ sizeLine := by (rw [sizeLine_eq]; (try simp); omega)) (h : ∀ h', Fr h₀ L h' m → News h₀ L h' news' → Q .none { s with heap := h' }) : wpAny (model prog w) A (call (.builtin "list.append") [.ref D, x]) Q E s := by
  refine append_K (its := vs.toArray) (n := n) F N ?_ h (by simpa using hsz)
  have e : vs.toArray.push x = (vs ++ [x]).toArray := by simp
  rw [e]; exact U
local macro_rules | `(tactic| walk_at "call builtin:list.append") => `(tactic| (k_here; k_dflt refine my_append (h := ?_); intros; k_sweep))
theorem fresh_D2 : True := by (w_top off); trivial
/-- a list of flat tuples, the tuples lie in the ledger -/
inductive TupsL (tl : Led) : List Value → List (List PyData) → Prop
  | nil : TupsL tl [] []
  | cons {a : Addr} {vs : List Value} {ds : List PyData} {refs : List Value} {dss : List (List PyData)} : (a, tupO vs) ∈ tl → CarriedAll vs ds → TupsL tl refs dss → TupsL tl (.ref a :: refs) (ds :: dss)
theorem TupsL.mono {tl tl' : Led} {refs : List Value} {dss : List (List PyData)} (h : TupsL tl refs dss) (hs : ∀ p ∈ tl, p ∈ tl') : TupsL tl' refs dss := by
  induction h with
  | nil => exact .nil
  | cons a b _ ih => exact .cons (hs _ a) b ih
theorem TupsL.snoc {tl : Led} {refs : List Value} {dss : List (List PyData)} {a : Addr} {vs : List Value} {ds : List PyData} (h : TupsL tl refs dss) (ha : (a, tupO vs) ∈ tl) (hc : CarriedAll vs ds) : TupsL tl (refs ++ [.ref a]) (dss ++ [ds]) := by
  induction h with
  | nil => exact .cons ha hc .nil
  | cons a b _ ih => exact .cons a b ih
theorem TupsL.length {tl : Led} {refs : List Value} {dss : List (List PyData)} (h : TupsL tl refs dss) : refs.length = dss.length := by
  induction h with
  | nil => rfl
  | cons a b _ ih => simp [ih]
theorem TupsL.last {tl : Led} {dss : List (List PyData)} {ds : List PyData} : ∀ {refs : List Value}, TupsL tl refs (dss ++ [ds]) → ∃ ri a vs, refs = ri ++ [.ref a] ∧ (a, tupO vs) ∈ tl ∧ CarriedAll vs ds ∧ TupsL tl ri dss := by
  induction dss with
  | nil =>
    intro refs h
    cases h with
    | cons a b c => cases c with | nil => exact ⟨[], _, _, rfl, a, b, .nil⟩
  | cons d dss ih =>
    intro refs h
    cases h with
    | cons a b c =>
      obtain ⟨ri, a', vs', e, h1, h2, h3⟩ := ih c
      exact ⟨_ :: ri, a', vs', by rw [e]; rfl, h1, h2, .cons a b h3⟩
theorem TupsL.reads {tl led : Led} {refs : List Value} {dss : List (List PyData)} {h₀ h : Heap} {L : Addr} (T : TupsL tl refs dss) (N : News h₀ L h led) (hs : ∀ p ∈ tl, p ∈ led) : ReadsAll h refs (dss.map .tuple) [] := by
  induction T with
  | nil => exact .nil
  | cons a b _ ih => exact .cons (as := []) (bs := []) (reads_tuple_at (N _ (hs _ a)).1 rfl rfl (b.reads h)) ih
def pairD (p : Int × Int) : List PyData := [.int p.1, .int p.2]
def rangeStep (acc : List (Int × Int)) (n : Int) : List (Int × Int) :=
  match acc.getLast? with
  | some p => if n = p.2 + 1 then acc.dropLast ++ [(p.1, n)] else acc ++ [(n, n)]
  | none => [(n, n)]
def rangesF (ns : List Int) : List (Int × Int) := ns.foldl rangeStep []

def InvR (ns : List Int) (a l : Addr) (vs : List Value) (m₀ : Str → Option Value) (i : Nat) (m : Str → Option Value) (news : Led) : Prop :=
  ∃ u refs k tl, m = tm [Str.ofString "number"] u m₀ ∧ news = (l, listO refs k) :: (a, tupO vs) :: tl ∧ TupsL tl refs ((rangesF (ns.take i)).map pairD) ∧ (∀ p ∈ tl, @Ne Nat p.1 l) ∧ (∀ p ∈ tl, @Ne Nat p.1 a)

theorem shaped_pairs (ps : List (Int × Int)) : SeqAt.shaped (.list ((ps.map pairD).map .tuple)) = true := by
  have h1 : ∀ ps : List (Int × Int), PyData.canLayAll0 ((ps.map pairD).map .tuple) = true := fun ps => by
    induction ps with
    | nil => rfl
    | cons c r ih => simp only [List.map_cons, PyData.canLayAll0, ih, Bool.and_true]; rfl
  have h2 : ∀ ps : List (Int × Int), PyData.depthAll ((ps.map pairD).map .tuple) ≤ 1 := fun ps => by
    induction ps with
    | nil => exact Nat.zero_le _
    | cons c r ih => simp only [List.map_cons, PyData.depthAll]; exact Nat.max_le.mpr ⟨by simp [pairD, PyData.depth, PyData.depthAll], ih⟩
  have := h2 ps
  simp only [SeqAt.shaped, PyData.canLay0, PyData.depth, h1 ps, Bool.true_and]
  exact decide_eq_true (by omega)
theorem pairs_has (ps : List (Int × Int)) : (Shape.list (.tuples .int)).has (.list ((ps.map pairD).map .tuple)) = true := by
  rw [List.map_map]
  exact list_map_has fun p => by simp [pairD, Shape.has]
theorem pairs_ne_nil {w : World} {A : Around} {E : Value → Shared → Prop} {s : Shared} {h₀ : Heap} {L D l : Addr} {led tl : Led} {refs : List Value} {ps : List (Int × Int)} {k n : Nat} {Q : Value → Shared → Prop} (N : News h₀ L s.heap led := by assumption) (T : TupsL tl refs (ps.map pairD) := by assumption) (hs : ∀ p ∈ tl, p ∈ led := by exact fun _ h => .tail _ (.tail _ (.tail _ (.tail _ h)))) (hD : (D, listO refs k) ∈ led := by k_mem) (hl : (l, W.listOf #[] n) ∈ led := by k_mem)
    (hu : A.units + 64 < cLine := by k_room) {b : Bool} (hb' : (!decide (ps = [])) = b := by assumption) (h : Q (.bool b) s) : wpAny (model PR w) A (compareOp .NotEq (.ref D) (.ref l)) Q E s := by
  have hb : Reads s.heap (.ref l) (.list []) [l] := reads_newData (ys := []) (News.isList N hl) .nil
  have ha : Reads s.heap (.ref D) (.list ((ps.map pairD).map .tuple)) [D] := reads_list_at (N _ hD).1 rfl rfl (T.reads N hs)
  refine ne_dataH_same ha hb (shaped_pairs ps) (by decide) hu (SeqAt.noMix_of_shape (.list (.tuples .int)) rfl _ _ (pairs_has ps) (by decide)) ?_
  have e : PySem.Spec.same (.list ((ps.map pairD).map .tuple)) (.list []) = decide (ps = []) := by cases ps <;> rfl
  rw [e, hb']; exact h

theorem pair_vals {vb : List Value} {p : Int × Int} (h : CarriedAll vb (pairD p)) : ∃ t1 t2 : Tok, vb = [.int p.1 t1, .int p.2 t2] := by
  unfold pairD at h
  cases h with
  | cons a b => cases a; cases b with | cons a b => cases a; cases b; exact ⟨_, _, rfl⟩
theorem ints_at {vs : List Value} {ns : List Int} (h : IntsAre vs ns) : ∀ {i : Nat} {v : Value}, vs[i]? = some v → ∃ (n : Int) (t : Tok), ns[i]? = some n ∧ v = .int n t := by
  induction h with
  | nil => intro i v h; cases h
  | @cons n t vs ns h ih =>
    intro i v hv
    cases i with
    | zero => cases hv; exact ⟨n, t, rfl, rfl⟩
    | succ i => exact ih hv
theorem rangeStep_len (acc : List (Int × Int)) (n : Int) : (rangeStep acc n).length ≤ acc.length + 1 := by
  unfold rangeStep
  split
  · split <;> simp
  · simp
theorem ranges_len (ns : List Int) : (rangesF ns).length ≤ ns.length := by
  have key : ∀ (ns : List Int) (acc : List (Int × Int)), (ns.foldl rangeStep acc).length ≤ acc.length + ns.length := by
    intro ns
    induction ns with
    | nil => intro acc; simp
    | cons n r ih => intro acc; have := ih (rangeStep acc n); have := rangeStep_len acc n; simp only [List.foldl_cons, List.length_cons]; omega
  exact Nat.le_trans (key ns []) (by simp)
theorem ranges_step {ns : List Int} {i : Nat} {n : Int} (h : ns[i]? = some n) : rangesF (ns.take (i + 1)) = rangeStep (rangesF (ns.take i)) n := by
  unfold rangesF
  rw [List.take_add_one, h, List.foldl_append]
  rfl
theorem snoc_or {α : Type} (l : List α) : l = [] ∨ ∃ i a, l = i ++ [a] := by
  rcases List.eq_nil_or_concat l with h | ⟨i, a, h⟩
  · exact .inl h
  · exact .inr ⟨i, a, by simpa using h⟩
theorem last_ref {prog : Program} {w : World} {A : Around} {E : Value → Shared → Prop} {s : Shared} {value slice : PySem.Expr} {h₀ : Heap} {L D : Addr} {led : Led} {ri : List Value} {x : Value} {k : Nat} {u : Tok} {Q : Value → Shared → Prop} (N : News h₀ L s.heap led := by assumption) (hD : (D, listO (ri ++ [x]) k) ∈ led := by k_mem)
    (h : Q x s) (hs : subscripted slice false (.ref D) (.int (-1) u) = operate [.ref D, .int (-1) u] (getItem (.ref D) (.int (-1) u)) := by with_unfolding_all rfl) :
    wpAny (model prog w) A (subscriptTail value slice (.ref D) (.int (-1) u)) Q E s := by
  have hl := N.isList hD
  refine tail_any hl.typeIs slot_list_getitem.lookup (wpAny_getItem_list_neg hl (by decide) (by simp; omega) (by decide) (x := x) ?_ h) hs
  have e : ((-1 : Int) + ((ri ++ [x]).toArray.size : Nat)).toNat = ri.length := by simp; omega
  rw [e]
  simp
theorem tup_item {prog : Program} {w : World} {A : Around} {E : Value → Shared → Prop} {s : Shared} {value slice : PySem.Expr} {h₀ : Heap} {L D : Addr} {led : Led} {vs : List Value} {x : Value} {i : Nat} {u : Tok} {Q : Value → Shared → Prop} (N : News h₀ L s.heap led := by assumption) (hD : (D, tupO vs) ∈ led := by k_mem) (hx : vs[i]? = some x := by exact rfl) (hi : i < 2 ^ 62 := by decide)
    (h : Q x s) (hs : subscripted slice false (.ref D) (.int (i : Nat) u) = operate [.ref D, .int (i : Nat) u] (getItem (.ref D) (.int (i : Nat) u)) := by with_unfolding_all rfl) :
    wpAny (model prog w) A (subscriptTail value slice (.ref D) (.int (i : Nat) u)) Q E s := by
  have ht : IsTup s.heap D vs.toArray := ⟨_, (N _ hD).1, rfl, _, rfl⟩
  have hlt : i < vs.length := (List.getElem?_eq_some_iff.mp hx).1
  exact tail_any ht.typeIs slot_tuple_getitem.lookup (PyProof.Rows.getItem_tuple ht (by omega) (by omega) (seqIndex_of (by omega) (by simp; omega)) (x := x) (by simpa using hx) h) hs
theorem set_last {ri : List Value} {x v : Value} : W.ki_setL (ri ++ [x]) ri.length v = some (ri ++ [v]) := by
  induction ri with
  | nil => rfl
  | cons a r ih => simp only [List.cons_append, List.length_cons, W.ki_setL, ih]
theorem idx_last {ri : List Value} {x : Value} : seqIndex? (-1) (ri ++ [x]).toArray.size = some ri.length := by
  unfold seqIndex?
  simp
  omega

theorem sub_app {a b all : Led} (h : ∀ p ∈ a, p ∈ all) (r : ∀ q ∈ b, q ∈ all) : ∀ q ∈ a ++ b, q ∈ all := fun q hq => (List.mem_append.mp hq).elim (h q) (r q)
@[elab_as_elim] theorem InvR.out {ns : List Int} {a l : Addr} {vs : List Value} {m₀ : Str → Option Value} {i : Nat} {G : (Str → Option Value) → Led → Prop} (hn : ns.length ≤ 5000) (m : Str → Option Value) (nw : Led) (H : InvR ns a l vs m₀ i m nw)
    (h0 : ∀ u k tl, rangesF (ns.take i) = [] → TupsL tl [] (([] : List (Int × Int)).map pairD) → (∀ p ∈ tl, @Ne Nat p.1 l) → (∀ p ∈ tl, @Ne Nat p.1 a) → let m1 := tm [Str.ofString "number"] u m₀; G m1 ((l, listO [] k) :: (a, tupO vs) :: tl))
    (h1 : ∀ u ri b x y t1 t2 k tl pi, rangesF (ns.take i) = pi ++ [(x, y)] → (b, tupO [.int x t1, .int y t2]) ∈ tl → TupsL tl ri (pi.map pairD) → TupsL tl (ri ++ [.ref b]) ((pi ++ [(x, y)]).map pairD) → ri.length + 1 ≤ 5000 →
      (∀ p ∈ tl, @Ne Nat p.1 l) → (∀ p ∈ tl, @Ne Nat p.1 a) → let m1 := tm [Str.ofString "number"] u m₀; G m1 ((l, listO (ri ++ [.ref b]) k) :: (a, tupO vs) :: tl)) : G m nw := by
  obtain ⟨u, refs, k, tl, rfl, rfl, hT, htl, hta⟩ := H
  have hrl : refs.length ≤ 5000 := by
    rw [hT.length, List.length_map]
    exact Nat.le_trans (ranges_len _) (Nat.le_trans (by rw [List.length_take]; exact Nat.min_le_right _ _) hn)
  rcases snoc_or (rangesF (ns.take i)) with hps | ⟨pi, ⟨x, y⟩, hps⟩
  · rw [hps] at hT
    have hT' := hT
    cases hT'
    exact h0 u k tl hps hT htl hta
  · rw [hps] at hT
    have hT2 := hT
    rw [List.map_append] at hT
    obtain ⟨ri, b, vb, rfl, hbm, hbc, hT'⟩ := hT.last
    obtain ⟨t1, t2, rfl⟩ := pair_vals hbc
    rw [List.length_append, List.length_singleton] at hrl
    exact h1 u ri b x y t1 t2 k tl pi hps hbm hT' hT2 hrl htl hta
theorem InvR.app {ns : List Int} {a l b : Addr} {vs ri : List Value} {m₀ m : Str → Option Value} {i k : Nat} {num x y : Int} {t1 t2 : Tok} {ps qs : List (Int × Int)} {u : Str → Option Value} {tl : Led} (hnum : ns[i]? = some num) (hq : rangesF (ns.take i) = qs) (hstep : rangeStep qs num = ps ++ [(x, y)])
    (hm : m = tm [Str.ofString "number"] u m₀) (hT : TupsL tl ri (ps.map pairD)) (htl : ∀ p ∈ (b, tupO [.int x t1, .int y t2]) :: tl, @Ne Nat p.1 l) (hta : ∀ p ∈ (b, tupO [.int x t1, .int y t2]) :: tl, @Ne Nat p.1 a) :
    InvR ns a l vs m₀ (i + 1) m ((l, listO (ri ++ [.ref b]) k) :: (a, tupO vs) :: (b, tupO [.int x t1, .int y t2]) :: tl) := by
  refine ⟨_, _, _, _, hm, rfl, ?_, htl, hta⟩
  rw [ranges_step hnum, hq, hstep, List.map_append]
  exact (hT.mono fun p hp => .tail _ hp).snoc (.head _) (.cons (.int _ _) (.cons (.int _ _) .nil))
theorem step_same {pi : List (Int × Int)} {x y num : Int} (h : num = y + 1) : rangeStep (pi ++ [(x, y)]) num = pi ++ [(x, num)] := by
  unfold rangeStep
  rw [List.getLast?_concat]
  simp only [if_pos h, List.dropLast_concat]
theorem step_new {pi : List (Int × Int)} {x y num : Int} (h : num ≠ y + 1) : rangeStep (pi ++ [(x, y)]) num = pi ++ [(x, y)] ++ [(num, num)] := by
  unfold rangeStep
  rw [List.getLast?_concat]
  simp only [if_neg h]
theorem ps_ne {pi : List (Int × Int)} {p : Int × Int} : (!decide ((pi ++ [p] : List (Int × Int)) = [])) = true := by simp
theorem my_setlast {prog : Program} {w : World} {A : Around} {E : Value → Shared → Prop} {s : Shared} {h₀ : Heap} {L D : Addr} {m : Str → Option Value} {led led' : Led} {ri : List Value} {x v : Value} {n : Nat} {t : Tok} {Q : Unit → Shared → Prop} (h : ∀ h', Fr h₀ L h' m → News h₀ L h' led' → Q () { s with heap := h' })
    (F : Fr h₀ L s.heap m := by k_asm) (N : News h₀ L s.heap led := by k_asm) (U : Upd D (listO (ri ++ [x]) n) (listO (ri ++ [v]) n) led led' := by k_upd) : wpAny (model prog w) A (setItem (.ref D) (.int (-1) t) v) Q E s := ki_setNeg F N (by decide) (by decide) idx_last set_last U h
section
local macro_rules | `(tactic| walk_at "setItem ref int") => `(tactic| (k_here; k_dflt refine my_setlast ?_; intros; k_sweep))
local macro_rules | `(tactic| walk_at "compareOp NotEq ref ref") => `(tactic| (k_here; k_dflt refine pairs_ne_nil (h := ?_)))
local macro_rules | `(tactic| walk_at "subscriptTail") => `(tactic| ((with_reducible refine at_sub (-1) ?_); k_dflt refine last_ref (h := ?_)))
local macro_rules | `(tactic| walk_at "subscriptTail") => `(tactic| ((with_reducible refine at_sub 0 ?_); k_dflt refine tup_item (i := 0) (h := ?_)))
local macro_rules | `(tactic| walk_at "subscriptTail") => `(tactic| ((with_reducible refine at_sub 1 ?_); k_dflt refine tup_item (i := 1) (h := ?_)))
local macro_rules | `(tactic| walk_at "pyIter ref") => `(tactic| (with_reducible refine stop_iterV ?_))
theorem ranges_ok (w : World) (a : Addr) (vs : List Value) (ns : List Int) (hv : IntsAre vs ns) (hn : ns.length ≤ 5000) :
    Spec0 w 94 [.ref a] [(a, tupO vs)] (fun v new => ∃ refs k l tl, v = .ref l ∧ new = (l, listO refs k) :: tl ∧ TupsL tl refs ((rangesF ns).map pairD) ∧ ∀ p ∈ tl, @Ne Nat p.1 l) False 5 100 := by
  unfold Spec0 SpecG KK PR
  k_fill
  intro loose mean mg mb dp un gd envs base g s R B X T hk hsz hp hd hu hret hexc
  (k_dflt refine code_sep (h := ?_)); k_whole; intro L' h' tk' mp F' N'; (try dsimp only [List.nil_append, List.cons_append] at N'); intro ev Ar Mo; (try dsimp only); (try k_fold)
  k_steps
  refine for_src (src_tup rfl ‹_› (.tail _ (.head _))) ‹_› ‹_› (fun p hp => by rw [List.mem_singleton.mp hp]; exact .tail _ (.head _)) (InvR ns a _ vs _) ⟨_, [], 0, [], (tm_eq (by intro y hy; rfl)), rfl, .nil, (fun _ h => nomatch h), (fun _ h => nomatch h)⟩ ?_ ?_
  · intro I i v m nw it h tk hi hP H
    obtain ⟨num, tn, hnum, rfl⟩ := ints_at ‹IntsAre vs ns› hP
    clear hP
    refine InvR.out hn m nw H ?_ ?_ <;> clear H
    · intro u k tl hps hT htl hta m1 hne hkeep F N
      have htI : ∀ p ∈ tl, @Ne Nat p.1 I := fun p hp => hne p (.tail _ (.tail _ hp))
      have q1 : @Ne Nat _ I := hne _ (.head _)
      have q2 : @Ne Nat a I := hne _ (.tail _ (.head _))
      clear hne
      have hb : (!decide (([] : List (Int × Int)) = [])) = false := rfl
      (try ((show wpAny _ _ _ _ _ _); k_fold))
      k_steps
      exact TurnEnd.mk ((_, listO _ _) :: (a, tupO vs) :: (_, tupO _) :: tl) (by assumption) (by assumption) (by k_mem) (by (repeat' first | exact List.forall_mem_nil _ | refine sub_cons (by k_mem) ?_ | (intro q hq; k_mem))) (by (repeat' first | exact List.forall_mem_nil _ | assumption | refine ne_cons (by k_ne) ?_)) (by (repeat' first | exact List.forall_mem_nil _ | refine sub_cons (by k_mem) ?_ | (intro q hq; k_mem))) (InvR.app (ps := []) (ri := []) hnum hps rfl (by (refine tm_eq ?_; repeat' first | with_reducible exact mp_id | exact mp_tm | refine mp_cons (by k_mem) ?_ | exact mp_id)) .nil (by (repeat' first | exact List.forall_mem_nil _ | assumption | refine ne_cons (by k_ne) ?_)) (by (repeat' first | exact List.forall_mem_nil _ | assumption | refine ne_cons (by k_ne) ?_)))
    · intro u ri b x y t1 t2 k tl pi hps hbm hT' hT hrl htl hta m1 hne hkeep F N
      have htI : ∀ p ∈ tl, @Ne Nat p.1 I := fun p hp => hne p (.tail _ (.tail _ hp))
      have q1 : @Ne Nat _ I := hne _ (.head _)
      have q2 : @Ne Nat a I := hne _ (.tail _ (.head _))
      clear hne
      have hb : (!decide ((pi ++ [(x, y)] : List (Int × Int)) = [])) = true := ps_ne
      (try ((show wpAny _ _ _ _ _ _); k_fold))
      k_steps
      · exact TurnEnd.mk ((_, listO _ _) :: (a, tupO vs) :: (_, tupO _) :: tl) (by assumption) (by assumption) (by k_mem) (by (repeat' first | exact List.forall_mem_nil _ | refine sub_cons (by k_mem) ?_ | (intro q hq; k_mem))) (by (repeat' first | exact List.forall_mem_nil _ | assumption | refine ne_cons (by k_ne) ?_)) (by (repeat' first | exact List.forall_mem_nil _ | refine sub_cons (by k_mem) ?_ | (intro q hq; k_mem))) (InvR.app hnum hps (step_same ‹num = _›) (by (refine tm_eq ?_; repeat' first | with_reducible exact mp_id | exact mp_tm | refine mp_cons (by k_mem) ?_ | exact mp_id)) hT' (by (repeat' first | exact List.forall_mem_nil _ | assumption | refine ne_cons (by k_ne) ?_)) (by (repeat' first | exact List.forall_mem_nil _ | assumption | refine ne_cons (by k_ne) ?_)))
      · exact TurnEnd.mk ((_, listO _ _) :: (a, tupO vs) :: (_, tupO _) :: tl) (by assumption) (by assumption) (by k_mem) (by (repeat' first | exact List.forall_mem_nil _ | refine sub_cons (by k_mem) ?_ | (intro q hq; k_mem))) (by (repeat' first | exact List.forall_mem_nil _ | assumption | refine ne_cons (by k_ne) ?_)) (by (repeat' first | exact List.forall_mem_nil _ | refine sub_cons (by k_mem) ?_ | (intro q hq; k_mem))) (InvR.app hnum hps (step_new ‹num ≠ _›) (by (refine tm_eq ?_; repeat' first | with_reducible exact mp_id | exact mp_tm | refine mp_cons (by k_mem) ?_ | exact mp_id)) hT (by (repeat' first | exact List.forall_mem_nil _ | assumption | refine ne_cons (by k_ne) ?_)) (by (repeat' first | exact List.forall_mem_nil _ | assumption | refine ne_cons (by k_ne) ?_)))
  · rintro m nw h tk ⟨u, refs, k, tl, rfl, rfl, hT, htl, hta⟩ F N
    (try ((show wpAny _ _ _ _ _ _); k_fold))
    k_steps
    try dsimp only
    k_unfold
    try dsimp only
    have hlv : vs.length = ns.length := IntsAre.length ‹_›
    rw [hlv, List.take_length] at hT
    refine hret _ [] ((_, listO refs k) :: tl) _ _ (Fr.keep (by assumption)) (out_news (by assumption) (sub_app (fun _ h => nomatch h) (sub_cons (.head _) (sub_app (fun _ h => .tail _ (.tail _ h)) (by (repeat' first | exact List.forall_mem_nil _ | refine sub_cons (by k_mem) ?_ | (intro q hq; k_mem))))))) ?_ ⟨rfl, refs, k, _, tl, rfl, rfl, hT, htl⟩
    intro p hp q hq
    rw [List.nil_append] at hq
    rw [List.mem_singleton.mp hq]
    rcases List.mem_cons.mp hp with rfl | hp
    · exact Nat.ne_of_lt ‹@LT.lt Nat _ a _›
    · exact fun e => hta p hp e.symm
end
section
variable {w : World} {f : Addr} {vs : List Value} {rd led : Led} {d u : Nat} {A₀ A : Around} {base h₀ : Heap} {outer : List Env} {L : Addr} {m : Str → Option Value} {env : Env} {s : Shared} {Q E : Value → Shared → Prop}
  {loose : List Str} {mean : ExcName → Option Value} {mg mb : Str → Option Value}
theorem useL {D : List (List PyData)} (S : Spec0 w f vs rd (fun v new => ∃ refs k l tl, v = .ref l ∧ new = (l, listO refs k) :: tl ∧ TupsL tl refs D ∧ ∀ p ∈ tl, @Ne Nat p.1 l) False d u)
  (ret : ∀ refs k l tl h' tk', Fr h₀ L h' m → News h₀ L h' ((l, listO refs k) :: (tl ++ led)) → TupsL tl refs D → (∀ p ∈ tl, @Ne Nat p.1 l) → Q (.ref l) { s with heap := h', toks := tk' })
  (F : Fr h₀ L s.heap m := by k_asm) (N : News h₀ L s.heap led := by k_asm) (B : Below A₀ base outer h₀ := by k_asm) (X : (KK w).In h₀ := by k_asm) (T : Top topProg loose mean mg mb h₀ := by k_asm)
  (hA : A.frames = some (env :: outer) := by rfl) (hh : A.handled = none := by rfl) (hf : env.frame = some L := by rfl) (hke : env.scope.kind = .function := by rfl)
  (hsub : SubL rd led := by k_subL) (hd : A.depth + d < recursionLimit := by k_room) (hu : A.units + u < cLine := by k_room) : wpAny (model PR w) A (call (.ref f) vs) Q E s :=
  spec_use0 S B F X N T hA hh hf hke hsub hd hu (fun _ _ h' tk' F' N' _ ⟨refs, k, l, tl, e1, e2, q, p⟩ => by subst e1 e2; exact ret refs k l tl h' tk' F' N' q p) (fun _ _ _ _ _ _ _ _ h => h.elim)
end
section
variable {prog : Program} {w : World} {A : Around} {E : Value → Shared → Prop} {s : Shared} {h₀ : Heap} {L : Addr} {m : Str → Option Value} {env : Env}
/-- one turn of a comprehension over pairs -/
def PairTurn (prog : Program) (w : World) (A : Around) (h₀ : Heap) (L : Addr) (m : Str → Option Value) (env : Env) (elt : PySem.Expr) (a b : Str) (scope : Scope) (cl : List (Str × Addr)) (s₂ : Shared) (refs : List Value) (tl news : Led) (Inv : Nat → List Value → Prop) : Prop :=
  ∀ i ys x y T I oI C oC D m₂ h tk (E' : Value → Shared → Prop), refs[i]? = some (Value.ref T) → (T, tupO [x, y]) ∈ tl → Inv i ys → NsObj oC m₂ → m₂ a = some x → m₂ b = some y → Fr h₀ L h m → News h₀ L h ((I, oI) :: (C, oC) :: (D, lst ys) :: news) → Off3 I C D news → ((@Ne Nat I C) ∧ (@Ne Nat I D) ∧ (@Ne Nat C D)) →
      wpAny (model prog w) A (eval elt (compEnvC scope cl C env)) (CompEnd h₀ L m { s₂ with heap := h, toks := tk } I oI C oC D (lst ys) (fun nw => nw = news) (fun z _ => Inv (i + 1) (ys ++ [z]))) E' { s₂ with heap := h, toks := tk }

/-- between two turns -/
def PairJ (h₀ : Heap) (L : Addr) (m : Str → Option Value) (s₂ : Shared) (n : Nat) (I l C D : Addr) (news : Led) (Inv : Nat → List Value → Prop) (k : Nat) (s' : Shared) : Prop :=
  ∃ h' tk i ys m', s' = { s₂ with heap := h', toks := tk } ∧ i ≤ n ∧ k = n + 1 - i ∧ ys.length = i ∧ h'.IsListIter I l i ∧ Fr h₀ L h' m ∧ h'.Ns C m' ∧ News h₀ L h' ((D, lst ys) :: news) ∧ Inv i ys
@[elab_as_elim] theorem PairJ.out {h₀ : Heap} {L : Addr} {m : Str → Option Value} {s₂ : Shared} {n : Nat} {I l C D : Addr} {news : Led} {Inv : Nat → List Value → Prop} {G : Nat → Shared → Prop} (k : Nat) (s' : Shared) (H : PairJ h₀ L m s₂ n I l C D news Inv k s')
    (h : ∀ h' tk i ys m', i ≤ n → ys.length = i → h'.IsListIter I l i → Fr h₀ L h' m → h'.Ns C m' → News h₀ L h' ((D, lst ys) :: news) → Inv i ys → G (n + 1 - i) { s₂ with heap := h', toks := tk }) : G k s' := by
  obtain ⟨h', tk, i, ys, m', rfl, hi, rfl, hyl, hit, F, hn, N, hI⟩ := H
  exact h h' tk i ys m' hi hyl hit F hn N hI
theorem pair_block {elt iter : PySem.Expr} {a b : Str} {pa pb tp : Pos} {k2 : Nat} {scope : Scope} {cl : List (Str × Addr)} {pos : Pos} {s₂ : Shared} {I l : Addr} {refs : List Value} {kk : Nat} {tl news : Led} {Inv : Nat → List Value → Prop} {RR : Value → Addr → Result → Shared → Prop}
    (hh : A.handled = none) (hne : l ≠ I) (hsz : refs.length ≤ sizeLine) (hit : s₂.heap.IsListIter I l 0) (hl : (l, listO refs kk) ∈ news) (htl : ∀ p ∈ tl, p ∈ news)
    (hpair : ∀ (i : Nat) (v : Value), refs[i]? = some v → ∃ T x y, v = Value.ref T ∧ (T, tupO [x, y]) ∈ tl)
    (hcell : ∀ y ∈ scope.names, y.2 ≠ .cell) (hkind : scope.kind = .function) (hxa : scope.names.lookup a = some .local) (hxb : scope.names.lookup b = some .local) (hab : ¬ a = b)
    (F : Fr h₀ L s₂.heap m) (N : News h₀ L s₂.heap news) (hIL : L ≠ I) (hI₀ : h₀.get? I = none) (off : ∀ p ∈ news, p.1 ≠ I) (h0 : Inv 0 [])
    (turn : PairTurn prog w A h₀ L m env elt a b scope cl s₂ refs tl news Inv)
    (hRR : ∀ D C h tk m' ys, Fr h₀ L h m → News h₀ L h ((D, lst ys) :: news) → Off1 D news → h.Ns C m' → h₀.get? C = none → h₀.get? D = none → C ≠ L → D ≠ L → C ≠ D → (∀ p ∈ news, p.1 ≠ C) → Inv refs.length ys → RR (.ref D) C (.ok .next) { s₂ with heap := h, toks := tk }) :
    wpAny (model prog w) A (newList []) (fun acc s₃ => wpAny (model prog w) A (newFunctionEnv scope env.globals cl [] env.qual none .none (some env)) (fun cenv s₄ =>
      codeAny (model prog w) A (.compStart (.ListComp elt [⟨.Tuple [.Name a pa, .Name b pb] k2 tp, iter, [], 0⟩] scope pos) 0 (.ref I) acc { cenv with scope := relabel scope env }) (RR acc cenv.locals) s₄) E s₃) E s₂ := by
  refine wpAny_newObj_type (wpAny_newFunctionEnv hcell (by intro y hy; simp at hy) (fun h₁ hns₁ hsb₁ => ?_) hkind)
  dsimp only at hns₁ hsb₁ ⊢
  generalize hH2 : s₂.heap.push { cls := .type "list", dict := none, data := .seq ([] : List Value).toArray } = H2 at hns₁ hsb₁ ⊢
  have hC : H2.objs.size = s₂.heap.objs.size + 1 := by rw [← hH2, Heap.size_push]
  have hDC : s₂.heap.objs.size ≠ H2.objs.size := by rw [hC]; exact Nat.ne_of_lt (Nat.lt_succ_self _)
  have below : ∀ c, c < s₂.heap.objs.size → c ≠ H2.objs.size ∧ c ≠ s₂.heap.objs.size := fun c hb => ⟨by rw [hC]; exact Nat.ne_of_lt (Nat.lt_succ_of_lt hb), Nat.ne_of_lt hb⟩
  have hIlt : I < s₂.heap.objs.size := by obtain ⟨o, e, _⟩ := hit; exact Heap.lt_size e
  have old : ∀ c o, s₂.heap.get? c = some o → h₁.get? c = some o := fun c o e => hsb₁.extBut c o (below c (Heap.lt_size e)).1 (Heap.get?_push_of_some _ (hH2 ▸ Heap.get?_push_of_some _ e))
  have hacc : h₁.get? s₂.heap.objs.size = some (lst []) := hsb₁.extBut _ _ hDC (Heap.get?_push_of_some _ (hH2 ▸ Heap.get?_push_size _ rfl))
  have hlist : ∀ {h : Heap} {nw : Led}, News h₀ L h nw → (∀ p ∈ news, p ∈ nw) → h.IsList l refs.toArray := fun N' hs => ⟨_, (N' _ (hs _ hl)).1, rfl, _, rfl⟩
  have hst₁ : h₁.IsListIter I l 0 := hit.at fun o e => old _ _ e
  have fresh₀ : ∀ c, s₂.heap.objs.size ≤ c → h₀.get? c = none := fun c hc => by
    cases e : h₀.get? c with
    | none => rfl
    | some o' => exact absurd (Heap.lt_size (F.keep c o' e)) (Nat.not_lt.mpr hc)
  have hD₀ : h₀.get? s₂.heap.objs.size = none := fresh₀ _ (Nat.le_refl _)
  have hC₀ : h₀.get? H2.objs.size = none := fresh₀ _ (by rw [hC]; exact Nat.le_succ _)
  have hLlt : L < s₂.heap.objs.size := F.ns.lt
  have hDL : s₂.heap.objs.size ≠ L := Ne.symm (below L hLlt).2
  have hCL : H2.objs.size ≠ L := Ne.symm (below L hLlt).1
  have hCI : I ≠ H2.objs.size := (below I hIlt).1
  have hDI : I ≠ s₂.heap.objs.size := (below I hIlt).2
  have off₀ : Off3 I H2.objs.size s₂.heap.objs.size news := Off3.of fun p hp => ⟨off p hp, (below _ (Heap.lt_size (N p hp).1)).1, (below _ (Heap.lt_size (N p hp).1)).2⟩
  have off3 := off₀.mem
  have hsz' : refs.toArray.size = refs.length := by simp
  have W0 := Walks.list (prog := prog) (w := w) hh I l hne refs.toArray
  rw [hsz'] at W0
  have W := KTurns.ofWalks (target := .Tuple [.Name a pa, .Name b pb] k2 tp) W0 fun i v s Q E st q => letGo_listiter st.1 q
  have loop : ∀ s₃ : Shared, s₃ = { s₂ with heap := h₁, toks := s₂.toks + ([] : List (Str × Value)).length } →
      codeAny (model prog w) A (.compLoop (.ListComp elt [⟨.Tuple [.Name a pa, .Name b pb] k2 tp, iter, [], 0⟩] scope pos) 0 (.ref I) (.ref s₂.heap.objs.size) (compEnvC scope cl H2.objs.size env))
        (RR (.ref s₂.heap.objs.size) H2.objs.size) s₃ := by
    rintro s₃ rfl
    refine kcp_loop (PairJ h₀ L m s₂ refs.length I l H2.objs.size s₂.heap.objs.size news Inv) ?_ (refs.length + 1)
      ⟨h₁, _, 0, [], _, rfl, Nat.zero_le _, rfl, rfl, hst₁, F.keeps old, hns₁, fun p hp => ?_, h0⟩
    · intro k s' H
      refine PairJ.out k s' H ?_
      clear H
      intro h' tk i ys m' hi hyl hit' F' hn' N' hI'
      have hL' : h'.IsList l refs.toArray := hlist N' fun p hp => .tail _ hp
      by_cases hlt : i < refs.length
      · refine W.item i _ _ _ hlt ⟨hit', hL'⟩ fun v h₂ tk₂ hMd hk₂ => ?_
        refine W.go i v _ _ _ hMd fun h₃ hP hst₃ hk₃ => ?_
        have hP' : refs[i]? = some v := by simpa using hP
        obtain ⟨T, x, y, rfl, hT⟩ := hpair i v hP'
        have up₃ : ∀ c o, c ≠ I → h'.get? c = some o → h₃.get? c = some o := fun c o hc e => hk₃ c o (by simpa using hc) (hk₂ c o (by simpa using hc) e)
        have hTI : T ≠ I := off _ (htl _ hT)
        have hT₃ : h₃.IsTuple T #[x, y] := ⟨_, up₃ _ _ hTI (N' _ (.tail _ (htl _ hT))).1, rfl, _, rfl⟩
        refine kcp_assign (env := compEnvC scope cl H2.objs.size env) hh hT₃ (lookup_relabel_local hxa) (lookup_relabel_local hxb) (by simp [compEnvC, relabel, hkind]) (hn'.at' fun o e => up₃ _ o (Ne.symm hCI) e) fun h₄ tk₄ hn₄ hs₄ => ?_
        have up : ∀ c o, c ≠ I → c ≠ H2.objs.size → h'.get? c = some o → h₄.get? c = some o := fun c o h1 h2 e => hs₄ c o h2 (up₃ c o h1 e)
        have hI₃ : h₃.IsListIter I l (i + 1) := hst₃.1
        have hI₄ : h₄.IsListIter I l (i + 1) := hI₃.at fun o e => hs₄ I _ hCI e
        obtain ⟨oI, heI, hoI⟩ := id hI₄
        obtain ⟨oC, heC, hoC⟩ := ns_obj hn₄
        have F₄ : Fr h₀ L h₄ m := ⟨F'.ns.at' fun o e => up _ o hIL (Ne.symm hCL) e, fun c o e => up c o (fun q => by rw [q, hI₀] at e; cases e) (fun q => by rw [q, hC₀] at e; cases e) (F'.keep c o e), F'.above⟩
        have N₄ : News h₀ L h₄ ((I, oI) :: (H2.objs.size, oC) :: (s₂.heap.objs.size, lst ys) :: news) := fun q hq => by
          rcases List.mem_cons.mp hq with rfl | hq
          · exact ⟨heI, Ne.symm hIL, hI₀⟩
          · rcases List.mem_cons.mp hq with rfl | hq
            · exact ⟨heC, hCL, hC₀⟩
            · have z := N' q hq
              refine ⟨up _ _ ?_ ?_ z.1, z.2⟩
              · rcases List.mem_cons.mp hq with rfl | hq
                · exact Ne.symm hDI
                · exact (off3 q hq).1
              · rcases List.mem_cons.mp hq with rfl | hq
                · exact hDC
                · exact (off3 q hq).2.1
        refine wpAny_mono (turn i ys x y T I oI H2.objs.size oC s₂.heap.objs.size _ h₄ _ _ hP' hT hI' hoC (by simp [hab]) (by simp) F₄ N₄ off₀ ⟨hCI, hDI, Ne.symm hDC⟩) (fun z s₅ h₅ => ?_) fun _ _ e => e
        obtain ⟨h₅, tk₅, news₅, rfl, F₅, N₅, off₅, rfl, R₅⟩ := h₅
        have zI := (N₅ (I, oI) List.mem_cons_self).1
        have zC := (N₅ (H2.objs.size, oC) (List.mem_cons_of_mem _ List.mem_cons_self)).1
        have zD := (N₅ (s₂.heap.objs.size, lst ys) (List.mem_cons_of_mem _ (List.mem_cons_of_mem _ List.mem_cons_self))).1
        have N₅' : News h₀ L h₅ news₅ := fun q hq => N₅ q (List.mem_cons_of_mem _ (List.mem_cons_of_mem _ (List.mem_cons_of_mem _ hq)))
        refine append_at (hsz := by show ys.toArray.size ≤ sizeLine; rw [List.size_toArray, hyl]; exact Nat.le_trans hi hsz) zD fun h₆ hs₆ hD₆ => ?_
        refine ⟨refs.length + 1 - (i + 1), by omega, h₆, tk₅, i + 1, ys ++ [z], _, rfl, hlt, rfl, by rw [List.length_append, List.length_singleton, hyl], ⟨oI, hs₆.extBut I oI hDI zI, hoI⟩, F₅.change hs₆ hDL hD₀,
          (hoC.ns zC).sameBut hs₆ (Ne.symm hDC), fun q hq => ?_, R₅⟩
        rcases List.mem_cons.mp hq with rfl | hq
        · exact ⟨hD₆.trans (congrArg some (lst_snoc ys z)), hDL, hD₀⟩
        · exact ⟨hs₆.extBut _ _ (off3 q hq).2.2 (N₅' q hq).1, (N₅' q hq).2⟩
      · have hin : i = refs.length := Nat.le_antisymm hi (Nat.not_lt.mp hlt)
        subst hin
        refine W.done _ _ _ ⟨hit', hL'⟩ fun h₂ tk₂ hk₂ => ?_
        exact hRR _ _ h₂ tk₂ _ ys (fr_but F' hk₂ hIL hI₀) (news_but N' hk₂ fun p hp => by
          rcases List.mem_cons.mp hp with rfl | hp
          · exact Ne.symm hDI
          · exact (off3 p hp).1) off₀.one (hn'.at' fun o e => hk₂ _ o (by simpa using Ne.symm hCI) e) hC₀ hD₀ hCL hDL (Ne.symm hDC) (fun p hp => (off3 p hp).2.1) hI'
    · rcases List.mem_cons.mp hp with rfl | hp
      · exact ⟨hacc, hDL, hD₀⟩
      · exact ⟨old _ _ (N p hp).1, (N p hp).2⟩
  exact codeAny_compStart_list (loop _ rfl) (W0.self 0 _ _ _ ⟨hst₁, ⟨_, old _ _ (N _ hl).1, rfl, _, rfl⟩⟩ (loop _ rfl))

def PairSrc (prog : Program) (w : World) (A : Around) (h₀ : Heap) (L : Addr) (m : Str → Option Value) (env : Env) (elt : PySem.Expr) (a b : Str) (scope : Scope) (cl : List (Str × Addr)) (Q : Value → Shared → Prop) (xv : Value) (s₁ : Shared) : Prop :=
  ∃ (l : Addr) (refs : List Value) (kk : Nat) (tl news : Led) (Inv : Nat → List Value → Prop), xv = Value.ref l ∧ refs.length ≤ sizeLine ∧ Fr h₀ L s₁.heap m ∧ News h₀ L s₁.heap news ∧ (l, listO refs kk) ∈ news ∧ (∀ p ∈ tl, p ∈ news) ∧
    (∀ (i : Nat) (v : Value), refs[i]? = some v → ∃ T x y, v = Value.ref T ∧ (T, tupO [x, y]) ∈ tl) ∧ Inv 0 [] ∧
    (∀ g : Heap, PairTurn prog w A h₀ L m env elt a b scope cl { s₁ with heap := g } refs tl news Inv) ∧
    (∀ (g : Heap) ys, Inv refs.length ys → FinE h₀ L m { s₁ with heap := g } Q ys news)

theorem pair_comp {elt iter : PySem.Expr} {a b : Str} {pa pb tp : Pos} {k2 : Nat} {scope : Scope} {cl : List (Str × Addr)} {pos : Pos} {Q : Value → Shared → Prop} (hh : A.handled = none) (_F₀ : Fr h₀ L s.heap m)
    (hclos : closureFor scope env = pure cl) (hcell : ∀ y ∈ scope.names, y.2 ≠ .cell) (hkind : scope.kind = .function)
    (hnames : ∀ y ∈ scope.names, y.2 = .local → scope.names.lookup y.1 = some .local) (hxa : scope.names.lookup a = some .local) (hxb : scope.names.lookup b = some .local) (hab : ¬ a = b)
    (h : wpAny (model prog w) A (eval iter env) (PairSrc prog w A h₀ L m env elt a b scope cl Q) E s)
    (hs : ∀ x, foldedSetIterable iter env x = pure x := by intro _; rfl) :
    wpAny (model prog w) A (eval (.ListComp elt [⟨.Tuple [.Name a pa, .Name b pb] k2 tp, iter, [], 0⟩] scope pos) env) Q E s := by
  rw [eval_ListComp]
  refine wpAny_comprehension_free (use := none) rfl hs hclos hkind hnames (wpAny_mono h (fun xv s₁ h₁ => ?_) fun _ _ e => e)
  obtain ⟨l, refs, kk, tl, news, Inv, rfl, hsz, F, N, hl, htl, hpair, h0, turn, fin⟩ := h₁
  have hls : s₁.heap.IsList l refs.toArray := ⟨_, (N _ hl).1, rfl, _, rfl⟩
  refine wpAny_pyIter_list hls ?_
  refine pair_block hh (Nat.ne_of_lt (Heap.lt_size (N _ hl).1)) hsz ⟨_, Heap.get?_push_size _ rfl, rfl, rfl⟩ hl htl hpair hcell hkind hxa hxb hab (F.push _) (fun p hp => ⟨Heap.get?_push_of_some _ (N p hp).1, (N p hp).2⟩)
    (Nat.ne_of_lt F.ns.lt) (next_is_new F) (fun p hp => Nat.ne_of_lt (Heap.lt_size (N p hp).1)) h0 (turn _) ?_
  intro D C h tk m' ys F' N' o1 hn hC₀ hD₀ hCL hDL hCD offC hI
  refine ⟨m', hn, fun h'' hs'' => fin s₁.heap ys hI D h'' tk (F'.change hs'' hCL hC₀) (fun p hp => ?_) o1⟩
  refine ⟨hs''.extBut _ _ ?_ (N' p hp).1, (N' p hp).2⟩
  rcases List.mem_cons.mp hp with rfl | hp
  · exact Ne.symm hCD
  · exact offC p hp
end
theorem tup_eq_ints {prog : Program} {w : World} {A : Around} {E : Value → Shared → Prop} {s : Shared} {h₀ : Heap} {L a b : Addr} {led : Led} {xs ys : List Value} {ns ms : List Int} {Q : Value → Shared → Prop} (N : News h₀ L s.heap led := by k_asm) (ha : (a, tupO xs) ∈ led := by k_mem) (hb : (b, tupO ys) ∈ led := by k_mem) (hi : IntsAre xs ns := by first | assumption | exact .nil) (hj : IntsAre ys ms := by first | assumption | exact .nil) (hu : A.units + 64 < cLine := by k_room) (h : Q (.bool (decide (ns = ms))) s) :
    wpAny (model prog w) A (compareOp .Eq (.ref a) (.ref b)) Q E s := by
  have sh : ∀ ns : List Int, SeqAt.shaped (.tuple (ns.map PyData.int)) = true := fun ns => by simp [SeqAt.shaped, PyData.canLay0, PyData.depth, ke_canLayAll0, ke_depthAll]
  have hh : ∀ ns : List Int, (Shape.tuples .int).has (.tuple (ns.map PyData.int)) = true := fun ns => tuples_map_has fun _ => rfl
  exact eq_dataH_same (reads_newDataT ⟨_, (N _ ha).1, rfl, _, rfl⟩ (ke_carried hi)) (reads_newDataT ⟨_, (N _ hb).1, rfl, _, rfl⟩ (ke_carried hj)) (sh _) (sh _) hu (SeqAt.noMix_of_shape (.tuples .int) rfl _ _ (hh _) (hh _)) (by
    have e : PySem.Spec.same (.tuple (ns.map PyData.int)) (.tuple (ms.map PyData.int)) = decide (ns = ms) := by simp only [PySem.Spec.same]; exact ke_sameAll ns ms
    rw [e]; exact h)
local macro_rules | `(tactic| walk_at "compareOp Eq ref ref") => `(tactic| (k_here; k_dflt refine tup_eq_ints (h := ?_)))
theorem fresh_D4 : True := by (w_top off); trivial
theorem TupsL.at {tl : Led} {refs : List Value} {dss : List (List PyData)} (h : TupsL tl refs dss) : ∀ {i : Nat} {v : Value}, refs[i]? = some v → ∃ T vs ds, dss[i]? = some ds ∧ v = Value.ref T ∧ (T, tupO vs) ∈ tl ∧ CarriedAll vs ds := by
  induction h with
  | nil => intro i v h; cases h
  | cons a b _ ih =>
    intro i v hv
    cases i with
    | zero => cases hv; exact ⟨_, _, _, rfl, rfl, a, b⟩
    | succ i => exact ih hv
theorem led_uniq {h₀ h : Heap} {L T : Addr} {led : Led} {o o' : Obj} (N : News h₀ L h led) (h1 : (T, o) ∈ led) (h2 : (T, o') ∈ led) : o = o' := by
  have a := (N _ h1).1
  rw [(N _ h2).1] at a
  exact (Option.some.inj a).symm
theorem pairs_at {tl : Led} {refs : List Value} {ps : List (Int × Int)} {i : Nat} {v : Value} (h : TupsL tl refs (ps.map pairD)) (hv : refs[i]? = some v) : ∃ T lo hi, ∃ t1 t2 : Tok, ps[i]? = some (lo, hi) ∧ v = Value.ref T ∧ (T, tupO [.int lo t1, .int hi t2]) ∈ tl := by
  obtain ⟨T, vs, ds, h1, h2, h3, h4⟩ := h.at hv
  rw [List.getElem?_map] at h1
  cases q : ps[i]? with
  | none => rw [q] at h1; cases h1
  | some p =>
    rw [q] at h1
    cases h1
    obtain ⟨t1, t2, rfl⟩ := pair_vals h4
    exact ⟨T, p.1, p.2, t1, t2, rfl, h2, h3⟩
theorem ranges_mem {ns : List Int} : ∀ p ∈ rangesF ns, p.1 ∈ ns ∧ p.2 ∈ ns := by
  have key : ∀ (ns all : List Int) (acc : List (Int × Int)), (∀ n ∈ ns, n ∈ all) → (∀ p ∈ acc, p.1 ∈ all ∧ p.2 ∈ all) → ∀ p ∈ ns.foldl rangeStep acc, p.1 ∈ all ∧ p.2 ∈ all := by
    intro ns all
    induction ns with
    | nil => intro acc _ h; exact h
    | cons n r ih =>
      intro acc h1 h2
      refine ih _ (fun x hx => h1 x (.tail _ hx)) fun p hp => ?_
      have hn := h1 n (.head _)
      unfold rangeStep at hp
      split at hp
      · rename_i q hq
        have hq' := List.mem_of_getLast? hq
        split at hp
        · rcases List.mem_append.mp hp with hp | hp
          · exact h2 p ((List.dropLast_sublist _).subset hp)
          · rw [List.mem_singleton.mp hp]; exact ⟨(h2 q hq').1, hn⟩
        · rcases List.mem_append.mp hp with hp | hp
          · exact h2 p hp
          · rw [List.mem_singleton.mp hp]; exact ⟨hn, hn⟩
      · rw [List.mem_singleton.mp hp]; exact ⟨hn, hn⟩
  exact key ns ns [] (fun _ h => h) (fun _ h => nomatch h)
def intS (n : Int) : Str := Str.ofString (toString n)
def pairText (p : Int × Int) : Str := if p.1 = p.2 then intS p.1 else intS p.1 ++ Str.ofString "-" ++ intS p.2
def numsText (ns : List Int) : Str := if ns = [] then Str.ofString "none" else Str.join (Str.ofString ",") ((rangesF ns).map pairText)
theorem strs_snoc {x : Str} {t : Tok} : ∀ {vs : List Value} {xs : List Str}, StrsAre vs xs → StrsAre (vs ++ [.str x t]) (xs ++ [x])
  | _, _, .nil => .cons x t .nil
  | _, _, .cons y u r => .cons y u (strs_snoc r)
theorem intS_len {n : Int} (h : 0 ≤ n ∧ n < 10000000000) : (intS n).length ≤ 10 := toString_length_le h.1 (by decide) h.2
theorem pair_len {p : Int × Int} (h1 : 0 ≤ p.1 ∧ p.1 < 10000000000) (h2 : 0 ≤ p.2 ∧ p.2 < 10000000000) : (pairText p).length ≤ 21 := by
  have a := intS_len h1
  have b := intS_len h2
  unfold pairText
  split
  · omega
  · rw [Str.length_append, Str.length_append, show (Str.ofString "-").length = 1 by decide]; omega
theorem sum_len {α : Type} {f : α → Str} {k : Nat} : ∀ (l : List α), (∀ p ∈ l, (f p).length ≤ k) → ((l.map f).map (·.length)).sum + (l.map f).length ≤ l.length * (k + 1)
  | [], _ => by simp
  | p :: r, h => by
    have ih := sum_len r fun q hq => h q (.tail _ hq)
    have := h p (.head _)
    simp only [List.map_cons, List.sum_cons, List.length_cons, Nat.add_mul, Nat.one_mul] at ih ⊢
    omega
theorem txt_join (a : Str) (l : List Str) : Txt.join a l = Str.join a l := StrLaws.glued_eq_join a l
def InvP (ps : List (Int × Int)) (i : Nat) (ys : List Value) : Prop := StrsAre ys ((ps.take i).map pairText)
section
local macro_rules | `(tactic| walk_at "eval ListComp") => `(tactic| (k_here; k_dflt (refine pair_comp (by rfl) (_F₀ := by k_asm) (by with_unfolding_all rfl) (by decide) (by rfl) (by decide) (by rfl) (by rfl) (by decide) ?_)))
section
variable {w : World} {A₀ A : Around} {base h₀ : Heap} {outer : List Env} {L : Addr} {m : Str → Option Value} {env : Env} {s : Shared} {Q E : Value → Shared → Prop}
  {loose : List Str} {mean : ExcName → Option Value} {mg mb : Str → Option Value} {led : Led} {gl : Obj → Led}
theorem call94 {a : Addr} {vs : List Value} {ns : List Int}
  (ret : ∀ refs k l tl h' tk', Fr h₀ L h' m → News h₀ L h' ((l, listO refs k) :: (tl ++ led)) → TupsL tl refs ((rangesF ns).map pairD) → (∀ p ∈ tl, @Ne Nat p.1 l) → Q (.ref l) { s with heap := h', toks := tk' })
  (F : Fr h₀ L s.heap m := by k_asm) (N : News h₀ L s.heap led := by k_asm) (B : Below A₀ base outer h₀ := by k_asm) (X : (KK w).In h₀ := by k_asm) (T : Top topProg loose mean mg mb h₀ := by k_asm)
  (hA : A.frames = some (env :: outer) := by rfl) (hh : A.handled = none := by rfl) (hf : env.frame = some L := by rfl) (hke : env.scope.kind = .function := by rfl) (hsub : SubL [(a, tupO vs)] led := by k_subL) (hd : A.depth + 5 < recursionLimit := by k_room) (hu : A.units + 100 < cLine := by k_room) (hv : IntsAre vs ns := by assumption) (hn : ns.length ≤ 5000 := by omega) : wpAny (model PR w) A (call (.ref 94) [.ref a]) Q E s :=
  useL (ranges_ok w a vs ns hv hn) ret F N B X T hA hh hf hke hsub hd hu
end
local macro_rules | `(tactic| walk_at "call ref") => `(tactic| (k_here; k_dflt refine call94 ?_; intros; k_sweep))
theorem ntext_ok (w : World) (a : Addr) (vs : List Value) (ns : List Int) (hv : IntsAre vs ns) (hn : ns.length ≤ 100) (hb : ∀ n ∈ ns, 0 ≤ n ∧ n < 10000000000) :
    Spec0 w 99 [.ref a] [(a, tupO vs)] (fun v new => (∃ t : Tok, v = .str (numsText ns) t) ∧ new = []) False 12 200 := by
  unfold Spec0 SpecG KK PR
  k_fill
  intro loose mean mg mb dp un gd envs base g s R B X T hk hsz hp hd hu hret hexc
  (k_dflt refine code_sep (h := ?_)); k_whole; intro L' h' tk' mp F' N'; (try dsimp only [List.nil_append, List.cons_append] at N'); intro ev Ar Mo; (try dsimp only); (try k_fold)
  k_steps
  · try dsimp only
    k_unfold
    try dsimp only
    refine hret _ [] [] _ _ (Fr.keep (by assumption)) (out_news (by assumption) (by (repeat' first | exact List.forall_mem_nil _ | refine sub_cons (by k_mem) ?_ | (intro q hq; k_mem)))) (fun _ h => nomatch h) ⟨rfl, ⟨_, by unfold numsText; rw [if_pos (of_decide_eq_true (by assumption))]⟩, rfl⟩
  · rename_i refs kk l tl h1 tk1 F2 N2 hT htl
    refine ⟨_, _, _, tl, _, InvP (rangesF ns), rfl, ?_, F2, N2, .head _, (fun p hp => .tail _ (List.mem_append_left _ hp)), (fun i v hv => ?_), .nil, (fun g => ?_), (fun g ys hI => ?_)⟩
    · rw [hT.length, List.length_map, sizeLine_eq]
      have := ranges_len ns
      omega
    · obtain ⟨T, lo, hi, t1, t2, _, e, hm⟩ := pairs_at hT hv
      exact ⟨T, _, _, e, hm⟩
    · intro i ys x y T I oI C oC D m₂ h tk E' hr hxy hI hC hx hy F N off ne
      obtain ⟨T', lo, hi, t1, t2, hps, e, hm⟩ := pairs_at hT hr
      cases e
      have e := led_uniq N (.tail _ (.tail _ (.tail _ (.tail _ (List.mem_append_left _ hm))))) (.tail _ (.tail _ (.tail _ (.tail _ (List.mem_append_left _ hxy)))))
      cases e
      have hpm := ranges_mem _ (List.mem_of_getElem? hps)
      have hlo := hb _ hpm.1
      have hhi := hb _ hpm.2
      dsimp only at hlo hhi
      have htk : (rangesF ns).take (i + 1) = (rangesF ns).take i ++ [(lo, hi)] := by rw [List.take_add_one, hps]; rfl
      have hst : ∀ t : Tok, InvP (rangesF ns) (i + 1) (ys ++ [.str (pairText (lo, hi)) t]) := fun t => by
        unfold InvP
        rw [htk, List.map_append]
        exact strs_snoc hI
      (try ((show wpAny _ _ _ _ _ _); k_fold))
      k_steps
      · have e : pairText (lo, hi) = Str.ofString (toString lo) := if_pos ‹lo = hi›
        rw [e] at hst
        exact CompEnd.intro (by assumption) (by assumption) _ (fun _ h => h) off rfl (hst _)
      · have e : pairText (lo, hi) = Str.ofString (toString lo) ++ Str.ofString "-" ++ Str.ofString (toString hi) := if_neg ‹lo ≠ hi›
        rw [e] at hst
        exact CompEnd.intro (by assumption) (by assumption) _ (fun _ h => h) off rfl (hst _)
    · intro D h tk F9 N9 off9
      have hI' : StrsAre ys (((rangesF ns).take refs.length).map pairText) := hI
      (try ((show wpAny _ _ _ _ _ _); k_fold))
      k_steps
      have hl : refs.length = (rangesF ns).length := by rw [hT.length, List.length_map]
      rw [hl, List.take_length] at hI'
      refine join_listW (N9.isList (.head _)) hI' (by decide) ?_ ?_
      · have h1 := sum_len (k := 21) (rangesF ns) fun p hp => pair_len (hb _ (ranges_mem p hp).1) (hb _ (ranges_mem p hp).2)
        have h2 := ranges_len ns
        have h3 : (rangesF ns).length * (21 + 1) ≤ 100 * 22 := Nat.mul_le_mul (by omega) (by decide)
        refine Nat.le_trans h1 ?_
        omega
      · intro t' k'
        k_unfold
        try dsimp only
        refine hret _ [] [] _ _ (Fr.keep (by assumption)) (out_news (by assumption) ?_) (fun _ h => nomatch h) ⟨rfl, ⟨_, by unfold numsText; rw [if_neg (of_decide_eq_false (by assumption)), ← txt_join]⟩, rfl⟩
        intro p hp
        rw [List.mem_singleton.mp hp]
        exact .tail _ (.tail _ (List.mem_append_right _ (.tail _ (.head _))))
end
theorem fresh_D5 : True := by (w_top off); trivial
theorem ints_mem {vs : List Value} {ns : List Int} (h : IntsAre vs ns) {v : Value} (hv : v ∈ vs) : ∃ (n : Int) (t : Tok), v = .int n t ∧ n ∈ ns := by
  obtain ⟨i, hi⟩ := List.getElem?_of_mem hv
  obtain ⟨n, t, h1, h2⟩ := ints_at h hi
  exact ⟨n, t, h2, List.mem_of_getElem? h1⟩
theorem strs_mem {vs : List Value} {ns : List Str} (h : StrsAre vs ns) {v : Value} (hv : v ∈ vs) : ∃ (n : Str) (t : Tok), v = .str n t ∧ n ∈ ns := by
  induction h with
  | nil => cases hv
  | @cons y t vs ys h ih =>
    rcases List.mem_cons.mp hv with rfl | hv
    · exact ⟨y, t, rfl, .head _⟩
    · obtain ⟨n, t, e, hm⟩ := ih hv
      exact ⟨n, t, e, .tail _ hm⟩
def intsOf : List Value → List Int
  | [] => []
  | .int n _ :: r => n :: intsOf r
  | _ :: r => intsOf r
def allInts : List Value → Bool
  | [] => true
  | .int _ _ :: r => allInts r
  | _ :: _ => false
theorem intsOf_are : ∀ (vs : List Value), allInts vs = true → IntsAre vs (intsOf vs)
  | [], _ => .nil
  | .int n t :: r, h => .cons n t (intsOf_are r h)
def strsOf : List Value → List Str
  | [] => []
  | .str n _ :: r => n :: strsOf r
  | _ :: r => strsOf r
def allStrs : List Value → Bool
  | [] => true
  | .str _ _ :: r => allStrs r
  | _ :: _ => false
theorem strsOf_are : ∀ (vs : List Value), allStrs vs = true → StrsAre vs (strsOf vs)
  | [], _ => .nil
  | .str n t :: r, h => .cons n t (strsOf_are r h)
theorem one_ints (w : World) (l th : Addr) (o : Obj) (vs : List Value) (n : Nat) (ho : IsSrc o) (hv : allInts vs = true) (ht : vs ≠ []) (hn : vs.length ≤ 5000) (hne : @Ne Nat th l) :
    Spec1 w 139 [.ref l, .ref th] l o [(th, listO vs n)] (fun v o' new => (∃ (n : Int) (t : Tok), v = .int n t ∧ n ∈ intsOf vs) ∧ IsSrc o' ∧ new = []) False 5 50 := by
  have S := one_ok w l th o vs n ho ht hn hne
  unfold Spec1 SpecG at S ⊢
  intro loose mean mg mb dp un gd envs base g s R B X T hk hsz hp hd hu hret hexc
  exact S loose mean mg mb dp un gd envs base g s R B X T hk hsz hp hd hu (fun v upd new h' tk' a b c ⟨o', e, hv', z⟩ => hret v upd new h' tk' a b c ⟨o', e, ints_mem (intsOf_are vs hv) hv', z⟩) hexc
theorem one_strs (w : World) (l th : Addr) (o : Obj) (vs : List Value) (n : Nat) (ho : IsSrc o) (hv : allStrs vs = true) (ht : vs ≠ []) (hn : vs.length ≤ 5000) (hne : @Ne Nat th l) :
    Spec1 w 139 [.ref l, .ref th] l o [(th, listO vs n)] (fun v o' new => (∃ (n : Str) (t : Tok), v = .str n t ∧ n ∈ strsOf vs) ∧ IsSrc o' ∧ new = []) False 5 50 := by
  have S := one_ok w l th o vs n ho ht hn hne
  unfold Spec1 SpecG at S ⊢
  intro loose mean mg mb dp un gd envs base g s R B X T hk hsz hp hd hu hret hexc
  exact S loose mean mg mb dp un gd envs base g s R B X T hk hsz hp hd hu (fun v upd new h' tk' a b c ⟨o', e, hv', z⟩ => hret v upd new h' tk' a b c ⟨o', e, strs_mem (strsOf_are vs hv) hv', z⟩) hexc

def Bd (d top : Int) : Prop := 0 ≤ d ∧ d < top
theorem Bd.mk {d top : Int} (a : 0 ≤ d) (b : d < top) : Bd d top := ⟨a, b⟩
section
variable {w : World} {f : Addr} {vs : List Value} {rd led : Led} {d u : Nat} {A₀ A : Around} {base h₀ : Heap} {outer : List Env} {L : Addr} {m : Str → Option Value} {env : Env} {s : Shared} {Q E : Value → Shared → Prop}
  {loose : List Str} {mean : ExcName → Option Value} {mg mb : Str → Option Value} {l : Addr} {o : Obj} {gl : Obj → Led}
theorem useB {top : Int} (S : Spec1 w f vs l o rd (takeRet top) False d u)
  (ret : ∀ d t o' h' tk', Fr h₀ L h' m → News h₀ L h' (gl o') → Bd d top → IsSrc o' → Q (.int d t) { s with heap := h', toks := tk' })
  (F : Fr h₀ L s.heap m := by k_asm) (N : News h₀ L s.heap led := by k_asm) (B : Below A₀ base outer h₀ := by k_asm) (X : (KK w).In h₀ := by k_asm) (T : Top topProg loose mean mg mb h₀ := by k_asm)
  (hA : A.frames = some (env :: outer) := by rfl) (hh : A.handled = none := by rfl) (hf : env.frame = some L := by rfl) (hke : env.scope.kind = .function := by rfl)
  (U : UpdF l o led gl := by k_updF) (hsub : SubL rd led := by k_subL) (hd : A.depth + d < recursionLimit := by k_room) (hu : A.units + u < cLine := by k_room) : wpAny (model PR w) A (call (.ref f) vs) Q E s :=
  spec_use1 S B F X N T hA hh hf hke U hsub hd hu (fun _ o' _ h' tk' F' N' _ ⟨d, t, e1, p, q, r, e2⟩ => by subst e1 e2; exact ret d t o' h' tk' F' N' ⟨p, q⟩ r) (fun _ _ _ _ _ _ _ _ h => h.elim)
end
-- a draw, its bounds kept from the walk
section
variable {w : World} {A₀ A : Around} {base h₀ : Heap} {outer : List Env} {L : Addr} {m : Str → Option Value} {env : Env} {s : Shared} {Q E : Value → Shared → Prop}
  {loose : List Str} {mean : ExcName → Option Value} {mg mb : Str → Option Value} {led : Led} {gl : Obj → Led}
theorem call132B {l : Addr} {o : Obj} {top : Int} {t3 : Tok}
  (ret : ∀ d t o' h' tk', Fr h₀ L h' m → News h₀ L h' (gl o') → Bd d top → IsSrc o' → Q (.int d t) { s with heap := h', toks := tk' })
  (F : Fr h₀ L s.heap m := by k_asm) (N : News h₀ L s.heap led := by k_asm) (B : Below A₀ base outer h₀ := by k_asm) (X : (KK w).In h₀ := by k_asm) (T : Top topProg loose mean mg mb h₀ := by k_asm)
  (hA : A.frames = some (env :: outer) := by rfl) (hh : A.handled = none := by rfl) (hf : env.frame = some L := by rfl) (hke : env.scope.kind = .function := by rfl) (ho : IsSrc o := by assumption) (U : UpdF l o led gl := by k_updF) (hsub : SubL [] led := by k_subL) (hd : A.depth + 3 < recursionLimit := by k_room) (hu : A.units + 40 < cLine := by k_room) (ht : 0 < top := by first | decide | omega | l_fact) (ht2 : top ≤ 5000 := by first | decide | omega | l_fact) : wpAny (model PR w) A (call (.ref 132) [.ref l, .int top t3]) Q E s :=
  useB (take_ok w l o top t3 ho ht ht2) ret F N B X T hA hh hf hke U hsub hd hu
end
local macro_rules | `(tactic| walk_at "call ref") => `(tactic| (k_here; k_dflt refine call132B ?_; intros; k_sweep))
-- a call of _law_one
section
variable {w : World} {A₀ A : Around} {base h₀ : Heap} {outer : List Env} {L : Addr} {m : Str → Option Value} {env : Env} {s : Shared} {Q E : Value → Shared → Prop}
  {loose : List Str} {mean : ExcName → Option Value} {mg mb : Str → Option Value} {led : Led} {gl : Obj → Led}
theorem useInts {l th : Addr} {o : Obj} {vs : List Value} {k : Nat} {xs : List Int}
  (ret : ∀ n t o' h' tk', Fr h₀ L h' m → News h₀ L h' (gl o') → n ∈ xs → IsSrc o' → Q (.int n t) { s with heap := h', toks := tk' })
  (F : Fr h₀ L s.heap m := by k_asm) (N : News h₀ L s.heap led := by k_asm) (B : Below A₀ base outer h₀ := by k_asm) (X : (KK w).In h₀ := by k_asm) (T : Top topProg loose mean mg mb h₀ := by k_asm)
  (hA : A.frames = some (env :: outer) := by rfl) (hh : A.handled = none := by rfl) (hf : env.frame = some L := by rfl) (hke : env.scope.kind = .function := by rfl) (ho : IsSrc o := by assumption)
  (U : UpdF l o led gl := by k_updF) (hsub : SubL [(th, listO vs k)] led := by k_subL) (hd : A.depth + 5 < recursionLimit := by k_room) (hu : A.units + 50 < cLine := by k_room)
  (hv : allInts vs = true := by rfl) (ht : vs ≠ [] := by exact List.cons_ne_nil _ _) (hn : vs.length ≤ 5000 := by exact Nat.le_of_ble_eq_true (by rfl)) (hne : @Ne Nat th l := by k_ne) (hxs : intsOf vs = xs := by (dsimp only [intsOf])) : wpAny (model PR w) A (call (.ref 139) [.ref l, .ref th]) Q E s :=
  use1C (one_ints w l th o vs k ho hv ht hn hne) (fun n t o' h' tk' F' N' hm => ret n t o' h' tk' F' N' (hxs ▸ hm)) F N B X T hA hh hf hke U hsub hd hu
theorem useStrs {l th : Addr} {o : Obj} {vs : List Value} {k : Nat} {xs : List Str}
  (ret : ∀ n t o' h' tk', Fr h₀ L h' m → News h₀ L h' (gl o') → n ∈ xs → IsSrc o' → Q (.str n t) { s with heap := h', toks := tk' })
  (F : Fr h₀ L s.heap m := by k_asm) (N : News h₀ L s.heap led := by k_asm) (B : Below A₀ base outer h₀ := by k_asm) (X : (KK w).In h₀ := by k_asm) (T : Top topProg loose mean mg mb h₀ := by k_asm)
  (hA : A.frames = some (env :: outer) := by rfl) (hh : A.handled = none := by rfl) (hf : env.frame = some L := by rfl) (hke : env.scope.kind = .function := by rfl) (ho : IsSrc o := by assumption)
  (U : UpdF l o led gl := by k_updF) (hsub : SubL [(th, listO vs k)] led := by k_subL) (hd : A.depth + 5 < recursionLimit := by k_room) (hu : A.units + 50 < cLine := by k_room)
  (hv : allStrs vs = true := by rfl) (ht : vs ≠ [] := by exact List.cons_ne_nil _ _) (hn : vs.length ≤ 5000 := by exact Nat.le_of_ble_eq_true (by rfl)) (hne : @Ne Nat th l := by k_ne) (hxs : strsOf vs = xs := by (dsimp only [strsOf])) : wpAny (model PR w) A (call (.ref 139) [.ref l, .ref th]) Q E s :=
  use1C (one_strs w l th o vs k ho hv ht hn hne) (fun n t o' h' tk' F' N' hm => ret n t o' h' tk' F' N' (hxs ▸ hm)) F N B X T hA hh hf hke U hsub hd hu
end
local macro_rules | `(tactic| walk_at "call ref") => `(tactic| (k_here; k_dflt refine useInts ?_; intros; k_sweep))
local macro_rules | `(tactic| walk_at "call ref") => `(tactic| (k_here; k_dflt refine useStrs ?_; intros; k_sweep))

/-- the frame's map: one name known, some forgotten -/
theorem tm1 {x : Str} {v : Value} {temps : List Str} {m' m₀ : Str → Option Value} (h1 : m' x = some v) (h : ∀ y, y ≠ x → y ∉ temps → m' y = m₀ y) : m' = fun y => if y = x then some v else tm temps m' m₀ y := by
  funext y
  by_cases hx : y = x
  · rw [if_pos hx, hx, h1]
  · rw [if_neg hx]
    unfold tm
    by_cases hy : y ∈ temps
    · rw [if_pos hy]
    · rw [if_neg hy]; exact h y hx hy
theorem tm1_self {x : Str} {v : Value} {temps : List Str} {m : Str → Option Value} (h1 : m x = some v) : m = fun y => if y = x then some v else tm temps m m y := tm1 h1 fun _ _ _ => rfl

def Rise (fs : List Int) : Prop := fs.Pairwise (· < ·) ∧ ∀ f ∈ fs, 0 ≤ f ∧ f < 5000
theorem Rise.snoc {fs : List Int} {n : Int} (h : Rise fs) (hb : ∀ f ∈ fs, f < n) (h0 : 0 ≤ n ∧ n < 5000) : Rise (fs ++ [n]) := by
  refine ⟨List.pairwise_append.mpr ⟨h.1, List.pairwise_singleton _ _, fun a ha b hb' => by rw [List.mem_singleton.mp hb']; exact hb a ha⟩, fun f hf => ?_⟩
  rcases List.mem_append.mp hf with hf | hf
  · exact h.2 f hf
  · rw [List.mem_singleton.mp hf]; exact h0
theorem small_bd {d top : Int} (h : Bd d top) (ht : top ≤ 5001) : Builtin.Range.small 0 d 1 = true := by
  have f : ∀ i : Int, 0 ≤ i ∧ i < 20000000000 → Builtin.Range.rangeFitsLong i = true := fun i h => by simp [Builtin.Range.rangeFitsLong]; omega
  have h1 := h.1
  have h2 := h.2
  unfold Builtin.Range.small
  have e := rangeSize_nat 0 d
  simp [f d (by omega), f 0 (by omega), f 1 (by omega), f (Builtin.Range.rangeSize 0 d 1) (by rw [e]; omega)]
/-- the loop of _law_numbers -/
def InvL (l lf : Addr) (m₀ : Str → Option Value) (i : Nat) (m : Str → Option Value) (nw : Led) : Prop :=
  ∃ u n t o' fs vf k, m = (fun y => if y = Str.ofString "number" then some (.int n t) else tm [Str.ofString "turn"] u m₀ y) ∧ nw = [(l, o'), (lf, listO vf k)] ∧ IsSrc o' ∧ IntsAre vf fs ∧ fs.length = i ∧ Rise fs ∧ (∀ f ∈ fs, f < n) ∧ 0 ≤ n ∧ n ≤ 4000 + 90 * (i : Int) ∧ @Ne Nat l lf

@[elab_as_elim] theorem InvL.out {l lf : Addr} {m₀ : Str → Option Value} {i : Nat} {G : (Str → Option Value) → Led → Prop} (m : Str → Option Value) (nw : Led) (H : InvL l lf m₀ i m nw)
    (h : ∀ u n t o' fs vf k, IsSrc o' → IntsAre vf fs → fs.length = i → vf.length = fs.length → Rise fs → (∀ f ∈ fs, f < n) → 0 ≤ n → n ≤ 4000 + 90 * (i : Int) → @Ne Nat l lf →
      let m1 : Str → Option Value := fun y => if y = Str.ofString "number" then some (.int n t) else tm [Str.ofString "turn"] u m₀ y
      G m1 [(l, o'), (lf, listO vf k)]) : G m nw := by
  obtain ⟨u, n, t, o', fs, vf, k, rfl, rfl, hsrc, hints, hfl, hrise, hlt, hn0, hn1, hne1⟩ := H
  exact h u n t o' fs vf k hsrc hints hfl (IntsAre.length hints) hrise hlt hn0 hn1 hne1
theorem InvL.init {l lf : Addr} {m₀ : Str → Option Value} {m : Str → Option Value} {n : Int} {t : Tok} {u : Str → Option Value} {o' : Obj} (hn : n ∈ [(0 : Int), 1, 9, 99, 4000])
    (hm : m = fun y => if y = Str.ofString "number" then some (.int n t) else tm [Str.ofString "turn"] u m₀ y) (hs : IsSrc o') (hne : @Ne Nat l lf) : InvL l lf m₀ 0 m [(l, o'), (lf, listO [] 0)] := by
  have hb := (by decide : ∀ n ∈ [(0 : Int), 1, 9, 99, 4000], 0 ≤ n ∧ n ≤ 4000) n hn
  exact ⟨_, _, _, _, [], [], 0, hm, rfl, hs, .nil, rfl, ⟨.nil, List.forall_mem_nil _⟩, List.forall_mem_nil _, hb.1, by omega, hne⟩
theorem InvL.next {l lf : Addr} {m₀ : Str → Option Value} {m : Str → Option Value} {n n' : Int} {t t' : Tok} {u : Str → Option Value} {o' : Obj} {i k d : Nat} {b : Int} {fs : List Int} {vf : List Value} (hn' : n' ∈ [(1 : Int), 1, 1, 2, 3, 90])
    (hm : m = fun y => if y = Str.ofString "number" then some (.int b t) else tm [Str.ofString "turn"] u m₀ y) (hs : IsSrc o') (hne : @Ne Nat l lf)
    (hints : IntsAre vf fs) (hfl : fs.length = i) (hrise : Rise fs) (hlt : ∀ f ∈ fs, f < n) (hn0 : 0 ≤ n) (hn1 : n ≤ 4000 + 90 * (i : Int)) (hi : i < d) (hd : d ≤ 7) (e : b = n + n') : InvL l lf m₀ (i + 1) m [(l, o'), (lf, listO (vf ++ [.int n t']) (k + 1))] := by
  have hb := (by decide : ∀ n ∈ [(1 : Int), 1, 1, 2, 3, 90], 1 ≤ n ∧ n ≤ 90) n' hn'
  have hc : b ≤ n + 90 ∧ n < b := by omega
  clear hb e
  refine ⟨_, _, _, _, fs ++ [n], _, _, hm, rfl, hs, IntsAre.append hints (.cons _ _ .nil), by rw [List.length_append, hfl]; rfl, hrise.snoc hlt (by omega), ?_, by omega, by omega, hne⟩
  intro f hf
  rcases List.mem_append.mp hf with hf | hf
  · have := hlt f hf; omega
  · rw [List.mem_singleton.mp hf]; exact hc.2
theorem ite01 (p : Prop) [Decidable p] : (0 : Int) ≤ if p then 1 else 0 := by split <;> decide
theorem News.sub {h₀ h : Heap} {L : Addr} {led led' : Led} (N : News h₀ L h led) (hs : ∀ p ∈ led', p ∈ led) : News h₀ L h led' := fun p hp => N p (hs p hp)
theorem IsSrc.cls {o : Obj} (h : IsSrc o) : o.cls = .type "list" := by
  obtain ⟨x, y, t1, t2, n, rfl, _⟩ := h
  rfl
section
local macro_rules | `(tactic| walk_at "pyIter ref") => `(tactic| (with_reducible refine stop_iterV ?_))
theorem lnums_ok (w : World) (l : Addr) (o : Obj) (ho : IsSrc o) :
    Spec1 w 153 [.ref l] l o [] (fun v o' new => ∃ a vs ns, v = .ref a ∧ new = [(a, tupO vs)] ∧ IntsAre vs ns ∧ ns.length ≤ 6 ∧ Rise ns ∧ IsSrc o') False 9 120 := by
  unfold Spec1 SpecG KK PR
  k_fill
  intro loose mean mg mb dp un gd envs base g s R B X T hk hsz hp hd hu hret hexc
  (k_dflt refine code_sep (h := ?_)); k_whole; intro L' h' tk' mp F' N'; (try dsimp only [List.nil_append, List.cons_append] at N'); intro ev Ar Mo; (try dsimp only); (try k_fold)
  k_steps
  have hn' := ‹_ ∈ [(0 : Int), 1, 9, 99, 4000]›
  refine' for_srcM (keep := []) (news := [(l, _), (?lf, listO [] 0)]) (InvL l ?lf) ?F (News.sub ?N ?sub) (src_range ?h1 ?h2 ?h3) (List.forall_mem_nil _) ?init ?turn ?fin
  case F => k_asm
  case N => k_asm
  case sub => (repeat' first | exact List.forall_mem_nil _ | refine sub_cons (by k_mem) ?_ | (intro q hq; k_mem))
  case h1 => rfl
  case h2 => assumption
  case h3 => exact small_bd (by assumption) (by decide)
  case init => exact InvL.init hn' (tm1_self (by with_unfolding_all rfl)) ‹IsSrc _› (Nat.ne_of_lt ‹@LT.lt Nat _ l _›)
  case turn =>
    intro I i v m nw it h tk hi hv H
    refine tok_of v hv ?_
    intro tv
    refine InvL.out m nw H ?_
    clear H hv
    intro u n t o' fs vf k hsrc hints hfl hvl hrise hlt hn0 hn1 hne1 m1 hne hkeep F N
    have q1 : @Ne Nat l I := hne _ (.head _)
    have q2 : @Ne Nat _ I := hne _ (.tail _ (.head _))
    have hB := ‹Bd _ 7›
    have hB2 := hB.2
    (try ((show wpAny _ _ _ _ _ _); k_fold))
    k_steps
    exact TurnEnd.mk [(l, _), (_, listO _ _)] (by assumption) (by assumption) (by k_mem) (by (repeat' first | exact List.forall_mem_nil _ | refine sub_cons (by k_mem) ?_ | (intro q hq; k_mem))) (by (repeat' first | exact List.forall_mem_nil _ | assumption | refine ne_cons (by k_ne) ?_)) (List.forall_mem_nil _)
      (.next ‹_ ∈ [(1 : Int), 1, 1, 2, 3, 90]› (by (refine tm1 (by rfl) ?_; repeat' first | with_reducible exact mq_id | exact mq_tm | refine mq_x ?_ | refine mq_cons (by k_mem) ?_ | exact mq_id)) (by assumption) hne1 hints hfl hrise hlt hn0 hn1 hi (by omega) rfl)
  case fin =>
    intro m nw h tk H
    refine InvL.out m nw H ?_
    clear H
    intro u n t o' fs vf k hsrc hints hfl hvl hrise hlt hn0 hn1 hne1 m1 F N
    have hB := ‹Bd _ 7›
    have hB1 := hB.1
    have hB2 := hB.2
    (try ((show wpAny _ _ _ _ _ _); k_fold))
    k_steps
    try dsimp only
    try k_unfold
    try dsimp only
    exact hret _ [(l, o')] [(_, tupO vf)] _ _ (Fr.keep (by assumption)) (out_news (by assumption) (by (repeat' first | exact List.forall_mem_nil _ | refine sub_cons (by k_mem) ?_ | (intro q hq; k_mem)))) (fun p hp q hq => by
      rw [List.mem_singleton.mp hp]
      rw [List.append_nil, List.mem_singleton] at hq
      rw [hq]
      exact ne_cls (‹News g _ _ _› (l, o') (by k_mem)).1 (‹News g _ _ _› (_, tupO vf) (by k_mem)).1 (by rw [hsrc.cls]; exact (by decide : Value.type "list" ≠ Value.type "tuple"))) ⟨_, rfl, _, vf, fs, rfl, rfl, hints, by have := hB.1; have := hB.2; omega, hrise, hsrc⟩
end
section
variable {w : World} {f : Addr} {vs : List Value} {rd led : Led} {d u : Nat} {A₀ A : Around} {base h₀ : Heap} {outer : List Env} {L : Addr} {m : Str → Option Value} {env : Env} {s : Shared} {Q E : Value → Shared → Prop}
  {loose : List Str} {mean : ExcName → Option Value} {mg mb : Str → Option Value} {l : Addr} {o : Obj} {gl : Obj → Led}
theorem use1A (S : Spec1 w f vs l o rd (fun v o' new => ∃ a vs ns, v = .ref a ∧ new = [(a, tupO vs)] ∧ IntsAre vs ns ∧ ns.length ≤ 6 ∧ Rise ns ∧ IsSrc o') False d u)
  (ret : ∀ a vs ns o' h' tk', Fr h₀ L h' m → News h₀ L h' ((a, tupO vs) :: gl o') → (∀ q ∈ led, @Ne Nat q.1 a) → IntsAre vs ns → ns.length ≤ 6 → Rise ns → IsSrc o' → Q (.ref a) { s with heap := h', toks := tk' })
  (F : Fr h₀ L s.heap m := by k_asm) (N : News h₀ L s.heap led := by k_asm) (B : Below A₀ base outer h₀ := by k_asm) (X : (KK w).In h₀ := by k_asm) (T : Top topProg loose mean mg mb h₀ := by k_asm)
  (hA : A.frames = some (env :: outer) := by rfl) (hh : A.handled = none := by rfl) (hf : env.frame = some L := by rfl) (hke : env.scope.kind = .function := by rfl)
  (U : UpdF l o led gl := by k_updF) (hsub : SubL rd led := by k_subL) (hd : A.depth + d < recursionLimit := by k_room) (hu : A.units + u < cLine := by k_room) : wpAny (model PR w) A (call (.ref f) vs) Q E s :=
  spec_use1 S B F X N T hA hh hf hke U hsub hd hu (fun _ o' _ h' tk' F' N' hn ⟨a, vs, ns, e1, e2, p, q, r, z⟩ => by subst e1 e2; exact ret a vs ns o' h' tk' F' N' (hn _ (.head _)) p q r z) (fun _ _ _ _ _ _ _ _ h => h.elim)
end
local macro_rules | `(tactic| walk_at "MINE pad1") => `(tactic| skip)
theorem fresh_D6 : True := by (w_top off); trivial
section
variable {prog : Program} {w : World} {dp un : Nat} {gd : Option (List Code)} {envs : List Env} {g : Heap} {s : Shared} {pre : Led} {K : Frag} {R : Result → Shared → Prop}
  {name qual : Str} {params : Arguments} {body : List Stmt} {scope : Scope} {dV kV doc pm cdv ct oc : Value} {an od : Option Addr} {osl : Array (Option Value)} {f : Addr} {args : Args} {binds : List (Str × Value)}
  {p : Program} {loose : List Str} {mean : ExcName → Option Value} {mg mb : Str → Option Value}
/-- the entry of a def that has cells -/
theorem code_sepC (X : K.In g := by assumption) (T : Top p loose mean mg mb g := by assumption) (hk : ∀ b o, g.get? b = some o → s.heap.get? b = some o := by assumption) (hsz : Grown g s.heap := by assumption)
    (hp : ∀ p ∈ pre, s.heap.get? p.1 = some p.2 ∧ g.get? p.1 = none := by assumption)
    (ho : K.lookup f = some ⟨oc, od, .func (fnOf name qual params body scope dV kV doc pm an cdv ct), osl⟩ := by k_is) (hcd : codeIn K cdv qual = true := by k_is) (hroom : dp < recursionLimit := by exact room_0 (by assumption))
    (hbind : BindsTo s (fnOf name qual params body scope dV kV doc pm an cdv ct) args binds := by first | exact BindsTo.of_eq rfl | exact binds_K (Frag.In.keeps (by assumption) (by assumption)) rfl (by k_is) rfl rfl rfl) (hkind : (binds.all fun y => scope.names.lookup y.1 == some .local || scope.names.lookup y.1 == some .cell) = true := by exact rfl)
    (hnd : ((cellsFrom 0 scope.names []).map (·.1)).Nodup := by decide +kernel)
    (h : ∀ L' h₁ tk cells,
      let ev := envOfC qual scope L' f cdv
      let mp := bindL ev.kindOf binds fun _ => none
      Fr g L' h₁ mp → News g L' h₁ (cells ++ pre) →
      CellsAre (bindC (envOfC qual scope L' f cdv).kindOf binds fun _ => none) (cellsFrom (L' + 1) scope.names []) cells → (∀ p ∈ pre, p.1 < L') →
      let Ar := (arX dp un gd envs).deeper ev
      let Mo := model prog w
      wpAny Mo Ar (execs body ev)
        (fun fl s' => R (.ok (.ret (match fl with | .ret v => v | _ => .none))) s')
        (fun e s' => wpAny Mo Ar (leaving ev e) (fun _ s'' => R (.error e) s'') (fun e' s'' => R (.error e') s'') s')
        { s with heap := h₁, toks := tk })
    (hco : scope.isCoroutine = false := by exact rfl) (hgen : scope.isGenerator = false := by exact rfl) (hkd : scope.kind = .function := by exact rfl) : codeAny (model prog w) (arX dp un gd envs) (.call (.ref f) args) R s := by
  refine codeAny_call_function (fd := fnOf name qual params body scope dV kV doc pm an cdv ct) hroom (hk _ _ (X _ _ ho)) rfl hco hgen rfl (codeRec_of (X.keeps hk) hcd) (hbind _ _ _ _ ?_)
  refine wpAny_newFunctionEnv_cells hkd (kindsX hkind _) fun env' he s' x => ?_
  subst he
  refine ⟨(T.nolimit.keeps hk).keeps x.toInCall.keep, codeAny_func ?_⟩
  obtain ⟨h₁, tk, rfl, _⟩ := x.done
  have hk₁ := x.toInCall.keep
  obtain ⟨cells, NC, Y⟩ := Cl.news (h₀ := s.heap) (Nat.le_refl _) fun n c hm => ⟨x.cell n c (lookup_of_mem_nodup (cellsFrom_names scope.names 0 (s.heap.objs.size + 1) [] [] rfl ▸ hnd) hm), x.above n c hm⟩
  refine h s.heap.objs.size h₁ tk cells ⟨x.toInCall.ns, fun b o e => hk₁ b o (hk b o e), hsz⟩ (fun p' hp' => ?_) Y (fun p' hp' => Heap.lt_size (hp p' hp').1)
  rcases List.mem_append.mp hp' with hp' | hp'
  · refine ⟨(NC p' hp').1, (NC p' hp').2.1, ?_⟩
    cases q : g.get? p'.1 with
    | none => rfl
    | some o => have := hk _ _ q; rw [(NC p' hp').2.2] at this; cases this
  · exact ⟨hk₁ _ _ (hp p' hp').1, Nat.ne_of_lt (Heap.lt_size (hp p' hp').1), (hp p' hp').2⟩
end
theorem walkt_range {prog : Program} {w : World} {A : Around} {E : Value → Shared → Prop} {h₀ : Heap} {L : Addr} {r : Addr} {a b : Int} {t u v : Tok} {s₁ : Shared} (hh : A.handled = none) (hr : IsRange s₁.heap r a b 1 t u v) (hsm : Builtin.Range.small a b 1 = true) :
    Walkt prog w A E h₀ L (.ref r) s₁ (b - a).toNat (fun i v => ∃ t : Tok, v = .int (a + (i : Nat) * 1) t) (fun _ => True) := by
  constructor
  have hn : Builtin.Range.rangeSize a b 1 = ((b - a).toNat : Int) := rangeSize_nat a b
  refine ⟨_, _, _, fun Q hQ => wpAny_pyIter_range hr hsm hQ, Walks.range hh s₁.heap.objs.size a 1 (b - a).toNat, ?_, fun c hc => by rw [List.mem_singleton.mp hc, Heap.size_push]; exact Nat.lt_succ_self _, fun i h st => ⟨_, st⟩, fun i h h' o nw st e e' _ _ _ => ?_⟩
  · show IsRangeIter _ _ _ _ _
    rw [hn]; simpa using Heap.get?_push_size _ rfl
  · rw [show h.get? s₁.heap.objs.size = _ from st] at e
    rw [← e] at e'
    exact e'
/-- the loop of _law_text -/
def InvT (l : Addr) (a b c : Addr × Obj) (i : Nat) (ys : List Value) (nw : Led) : Prop :=
  ∃ o' xs, nw = [a, b, c, (l, o')] ∧ IsSrc o' ∧ StrsAre ys xs ∧ xs.length = i ∧ ∀ x ∈ xs, x.length = 1 ∧ Asc x
theorem signs_ok : ∀ x ∈ [Str.ofString "a", Str.ofString "Z", Str.ofString "5", Str.ofString "-", Str.ofString " ", Str.ofString "!", Str.ofString "\"", Str.ofString "\\", Str.ofString "~"], x.length = 1 ∧ ∀ c ∈ x.cps.toList, c < 128 := by decide
theorem join_e : ∀ (xs : List Str), (∀ x ∈ xs, x.length = 1 ∧ Asc x) → (Str.join (Str.ofString "") xs).length = xs.length ∧ Asc (Str.join (Str.ofString "") xs)
  | [], _ => ⟨rfl, fun c h => by simp [Str.join, Str.empty] at h⟩
  | [x], h => ⟨(h x (.head _)).1, (h x (.head _)).2⟩
  | x :: y :: r, h => by
    have ih := join_e (y :: r) fun z hz => h z (.tail _ hz)
    have hx := h x (.head _)
    have e : Str.join (Str.ofString "") (x :: y :: r) = x ++ Str.ofString "" ++ Str.join (Str.ofString "") (y :: r) := rfl
    have e0 : (Str.ofString "").length = 0 := by decide
    rw [e]
    refine ⟨by rw [Str.length_append, Str.length_append, hx.1, e0, ih.1]; simp only [List.length_cons]; omega, fun c hc => ?_⟩
    have e1 : (x ++ Str.ofString "" ++ Str.join (Str.ofString "") (y :: r)).cps.toList = x.cps.toList ++ ((Str.ofString "").cps.toList ++ (Str.join (Str.ofString "") (y :: r)).cps.toList) := by
      simp [PySem.Str.cps_append]
    rw [e1, show (Str.ofString "").cps.toList = [] by decide, List.nil_append] at hc
    rcases List.mem_append.mp hc with hc | hc
    · exact hx.2 c hc
    · exact ih.2 c hc
@[elab_as_elim] theorem InvT.out {l : Addr} {a b c : Addr × Obj} {i : Nat} {ys : List Value} {G : Led → Prop} (nw : Led) (H : InvT l a b c i ys nw)
    (h : ∀ o' xs, IsSrc o' → StrsAre ys xs → xs.length = i → (∀ x ∈ xs, x.length = 1 ∧ Asc x) → G [a, b, c, (l, o')]) : G nw := by
  obtain ⟨o', xs, rfl, h1, h2, h3, h4⟩ := H
  exact h o' xs h1 h2 h3 h4
theorem InvT.next {l : Addr} {a b c : Addr × Obj} {i : Nat} {ys : List Value} {xs : List Str} {o' : Obj} {x : Str} {t : Tok} (hm : x ∈ [Str.ofString "a", Str.ofString "Z", Str.ofString "5", Str.ofString "-", Str.ofString " ", Str.ofString "!", Str.ofString "\"", Str.ofString "\\", Str.ofString "~"])
    (hs : IsSrc o') (hy : StrsAre ys xs) (hl : xs.length = i) (hx : ∀ x ∈ xs, x.length = 1 ∧ Asc x) : InvT l a b c (i + 1) (ys ++ [.str x t]) [a, b, c, (l, o')] :=
  ⟨_, xs ++ [x], rfl, hs, strs_snoc hy, by rw [List.length_append, hl]; rfl, fun y hy => by
    rcases List.mem_append.mp hy with hy | hy
    · exact hx y hy
    · rw [List.mem_singleton.mp hy]; exact signs_ok _ hm⟩
theorem signs_sum {xs : List Str} (h : ∀ x ∈ xs, x.length = 1 ∧ Asc x) : (xs.map (·.length)).sum + xs.length ≤ xs.length * 2 := by
  have hw := sum_len (f := fun x : Str => x) (k := 1) xs fun x hx => Nat.le_of_eq (h x hx).1
  rwa [List.map_id'] at hw
section
local macro_rules | `(tactic| walk_at "eval ListComp") => `(tactic| (k_here; k_dflt (refine comp_U (F₀ := by k_asm) (by with_unfolding_all rfl) (by decide) (by rfl) (by decide) (by rfl) ?_)))
theorem ltext_ok (w : World) (l : Addr) (o : Obj) (ho : IsSrc o) :
    Spec1 w 170 [.ref l] l o [] (fun v o' new => (∃ (x : Str) (t : Tok), v = .str x t ∧ x.length ≤ 6 ∧ Asc x) ∧ new = [] ∧ IsSrc o') False 9 120 := by
  unfold Spec1 SpecG KK PR
  k_fill
  intro loose mean mg mb dp un gd envs base g s R B X T hk hsz hp hd hu hret hexc
  (k_dflt refine code_sepC (h := ?_)); k_whole; intro L' h' tk' cells' ev mp F' N' Y' l1; (try simp only [List.nil_append, List.cons_append, List.append_nil] at l1); (try k_lt l1); k_cells Y'; (try dsimp only [List.nil_append, List.cons_append] at N'); intro Ar Mo; (try ((show wpAny _ _ _ _ _ _); k_fold))
  k_steps
  have hB := ‹Bd _ 7›
  have hB1 := hB.1
  have hB2 := hB.2
  have hs := ‹IsSrc _›
  refine ⟨_, _, fun _ => True, _, walkt_range rfl (by assumption) (small_bd hB (by decide)), by rw [sizeLine_eq]; omega, by k_asm, by k_asm, trivial, fun gg => ?_⟩
  refine compU_ind (InvT l _ _ _) ⟨_, [], rfl, hs, .nil, rfl, fun _ h => nomatch h⟩ ?_ ?_
  · intro i ys nw v I oI C oC D m₂ h tk E' hi H
    refine InvT.out nw H ?_
    clear H
    intro o' xs hsrc hys hxl hxs hv
    refine tok_of v hv ?_
    clear hv
    intro tv hC hx F N off ne
    have z := off.mem (l, o') (by k_mem)
    have z1 : @Ne Nat l I := z.1
    have z2 : @Ne Nat l C := z.2.1
    have z3 : @Ne Nat l D := z.2.2
    (try ((show wpAny _ _ _ _ _ _); k_fold))
    k_steps
    exact CompEnd.intro (by assumption) (by assumption) _ (fun _ h => h) (by exact off) trivial (.next ‹_ ∈ [Str.ofString "a", _, _, _, _, _, _, _, _]› (by assumption) hys hxl hxs)
  · intro ys nw H
    refine InvT.out nw H ?_
    clear H
    intro o' xs hsrc hys hxl hxs D h tk F9 N9 off9
    k_steps
    have hj := join_e xs hxs
    refine join_listW (N9.isList (.head _)) hys (by decide) (Nat.le_trans (signs_sum hxs) (by omega)) ?_
    intro t' k'
    try dsimp only
    try k_unfold
    try dsimp only
    exact hret _ [(l, o')] [] _ _ (Fr.keep (by assumption)) (out_news N9 (by (repeat' first | exact List.forall_mem_nil _ | refine sub_cons (by k_mem) ?_ | (intro q hq; k_mem)))) (fun _ h => nomatch h) ⟨_, rfl, ⟨_, _, rfl, by rw [txt_join, hj.1]; omega, by rw [txt_join]; exact hj.2⟩, rfl, hsrc⟩
end
section
open PySem.Builtin.Str
theorem my_replace {prog : Program} {w : World} {A : Around} {E : Value → Shared → Prop} {s : Shared} {x y z : Str} {t u v : Tok} {Q : Value → Shared → Prop} (hu : u ≠ 0 := by ((show @Ne Nat _ _); omega)) (hv : v ≠ 0 := by ((show @Ne Nat _ _); omega)) (huv : u ≠ v := by ((show @Ne Nat _ _); omega)) (hyz : (y == z) = false := by decide) (hb : x.length + (x.length + 1) * z.length ≤ 16777216 := by ((try simp only [show (Str.ofString "\\\\").length = 2 by decide, show (Str.ofString "\\\"").length = 2 by decide]); omega))
    (hq : ∀ t' k, @LE.le Nat _ s.toks k → Q (.str (Txt.replace x y z) t') { s with toks := k }) :
    wpAny (model prog w) A (call (.builtin "str.replace") [.str x t, .str y u, .str z v]) Q E s := by
  have hl : tooLong (x.length + (occurrences x y 0 x.length (x.length + 1)).length * z.length) = false := by
    have h1 := StrLaws.occ_length_le x y 0 x.length (x.length + 1)
    have h2 : (occurrences x y 0 x.length (x.length + 1)).length * z.length ≤ (x.length + 1) * z.length := Nat.mul_le_mul_right _ h1
    unfold tooLong sizeLine
    exact decide_eq_false (by omega)
  refine call_gives PySem.F.slot_str_replace (typeIs_str _ _ _) PySem.F.entry_str_replace (PySem.F.args_str_replace_3 _ _ _) (gives_str_replace x y z t u v fun _ => ⟨by simp [hu, hv], by simp [huv], hyz, hl⟩) ?_
  unfold Txt.replace at hq
  cases hc : ((occurrences x y 0 x.length (x.length + 1)).isEmpty || (y.length == 0 && z.length == 0))
  · rw [hc] at hq
    simp only [Bool.false_eq_true, if_false] at hq ⊢
    exact ⟨fits_replaced y hb, hq _ _ (Nat.le_succ _)⟩
  · rw [hc] at hq
    simp only [if_true] at hq ⊢
    exact hq t s.toks (Nat.le_refl _)
end
local macro_rules | `(tactic| walk_at "MINE pad2") => `(tactic| skip)
theorem fresh_D7 : True := by (w_top off); trivial
/-- the text between its quotes, each quote and slash behind a slash -/
def esc (x : List Nat) : List Nat := x.flatMap fun a => if a = 92 ∨ a = 34 then [92, a] else [a]
def quoteS (x : Str) : Str := ⟨([34] ++ esc (cp x) ++ [34]).toArray⟩
theorem esc_two : ∀ (x : List Nat), subst1 34 [92, 34] (subst1 92 [92, 92] x) = esc x
  | [] => rfl
  | a :: r => by
    have ih := esc_two r
    unfold subst1 esc at ih ⊢
    rw [List.flatMap_cons, List.flatMap_append, ih, List.flatMap_cons]
    congr 1
    by_cases h : a = 92
    · subst h; rfl
    · by_cases h2 : a = 34
      · subst h2; rfl
      · simp [h, h2]
theorem repl_len (x : Str) (h : x.length ≤ 1000) : (Txt.replace x (Str.ofString "\\") (Str.ofString "\\\\")).length ≤ 3000 := by
  have e : Str.ofString "\\" = ⟨#[92]⟩ := by decide
  rw [e, len_list, show (Txt.replace x ⟨#[92]⟩ (Str.ofString "\\\\")).cps.toList = _ from cp_replace _ _ _]
  have := subst1_len (c := 92) (z := cp (Str.ofString "\\\\")) (cp x)
  rw [show (cp (Str.ofString "\\\\")).length = 2 by decide] at this
  rw [len_list] at h
  exact Nat.le_trans this (by show x.cps.toList.length * 3 ≤ 3000; omega)
theorem repl_len2 (x : Str) (h : x.length ≤ 3000) : (Txt.replace x (Str.ofString "\"") (Str.ofString "\\\"")).length ≤ 9000 := by
  have e : Str.ofString "\"" = ⟨#[34]⟩ := by decide
  rw [e, len_list, show (Txt.replace x ⟨#[34]⟩ (Str.ofString "\\\"")).cps.toList = _ from cp_replace _ _ _]
  have := subst1_len (c := 34) (z := cp (Str.ofString "\\\"")) (cp x)
  rw [show (cp (Str.ofString "\\\"")).length = 2 by decide] at this
  rw [len_list] at h
  exact Nat.le_trans this (by show x.cps.toList.length * 3 ≤ 9000; omega)
local macro_rules | `(tactic| walk_at "call builtin:str.replace") => `(tactic| (k_here; k_dflt refine my_replace (hq := ?_); intro t' k' hk'; (try dsimp only at hk')))
theorem quoted_ok (w : World) (x : Str) (t : Tok) (hx : x.length ≤ 1000) :
    Spec0 w 106 [.str x t] [] (fun v new => (∃ t : Tok, v = .str (quoteS x) t) ∧ new = []) False 5 100 := by
  have hr := repl_len x hx
  have hr2 := repl_len2 _ hr
  unfold Spec0 SpecG KK PR
  k_fill
  intro loose mean mg mb dp un gd envs base g s R B X T hk hsz hp hd hu hret hexc
  (k_dflt refine code_sep (h := ?_)); k_whole; intro L' h' tk' mp F' N'; (try dsimp only [List.nil_append, List.cons_append] at N'); intro ev Ar Mo; (try dsimp only); (try k_fold)
  k_steps
  have e : Str.ofString "\"" ++ Txt.replace (Txt.replace x (Str.ofString "\\") (Str.ofString "\\\\")) (Str.ofString "\"") (Str.ofString "\\\"") ++ Str.ofString "\"" = quoteS x := by
    apply cp_inj
    have e1 : Str.ofString "\"" = ⟨#[34]⟩ := by decide
    have e2 : Str.ofString "\\" = ⟨#[92]⟩ := by decide
    have h1 := cp_replace (Txt.replace x (Str.ofString "\\") (Str.ofString "\\\\")) (Str.ofString "\\\"") 34
    have h2 := cp_replace x (Str.ofString "\\\\") 92
    rw [← e1] at h1
    rw [← e2] at h2
    rw [h2, show cp (Str.ofString "\\\"") = [92, 34] by decide, show cp (Str.ofString "\\\\") = [92, 92] by decide, esc_two] at h1
    unfold quoteS cp at *
    simp only [PySem.Str.cps_append, Array.toList_append, h1]
    rw [e1]
  rw [e]
  exact hret _ [] [] _ _ (Fr.keep (by assumption)) (fun _ h => nomatch h) (fun _ h => nomatch h) ⟨rfl, ⟨_, rfl⟩, rfl⟩
/-- what may stand behind a closing quote -/
def okAfter : List Nat → Bool
  | [] => true
  | c :: _ => c == 32 || c == 33
def readL : List Nat → Option (List Nat × List Nat)
  | [] => none
  | c :: r =>
    if c = 34 then (if okAfter r then some ([], r) else none)
    else if c = 92 then
      match r with
      | [] => none
      | d :: r' => if d = 92 ∨ d = 34 then (readL r').map fun p => (d :: p.1, p.2) else none
    else (readL r).map fun p => (c :: p.1, p.2)
theorem readL_cons (c : Nat) (r : List Nat) : readL (c :: r) = if c = 34 then (if okAfter r then some ([], r) else none)
    else if c = 92 then
      match r with
      | [] => none
      | d :: r' => if d = 92 ∨ d = 34 then (readL r').map fun p => (d :: p.1, p.2) else none
    else (readL r).map fun p => (c :: p.1, p.2) := by
  cases r <;> rfl
theorem readL_esc : ∀ (x b : List Nat), readL (esc x ++ 34 :: b) = if okAfter b then some (x, b) else none
  | [], b => by
    show readL (34 :: b) = _
    rw [readL_cons, if_pos rfl]
  | a :: x, b => by
    have ih := readL_esc x b
    have e : esc (a :: x) = (if a = 92 ∨ a = 34 then [92, a] else [a]) ++ esc x := List.flatMap_cons
    rw [e]
    by_cases h : a = 92 ∨ a = 34
    · rw [if_pos h]
      show readL (92 :: a :: (esc x ++ 34 :: b)) = _
      rw [readL_cons, if_neg (by decide), if_pos rfl]
      simp only [if_pos h]
      rw [ih]
      split <;> rfl
    · rw [if_neg h]
      show readL (a :: (esc x ++ 34 :: b)) = _
      rw [readL_cons, if_neg (fun e => h (.inr e)), if_neg (fun e => h (.inl e)), ih]
      split <;> rfl
theorem readL_len : ∀ (n : Nat) (l : List Nat), l.length ≤ n → ∀ w r, readL l = some (w, r) → r.length < l.length := by
  intro n
  induction n with
  | zero => intro l hl w r h; cases l with | nil => cases h | cons _ _ => simp at hl
  | succ n ih =>
    intro l hl w r h
    cases l with
    | nil => cases h
    | cons c t =>
      rw [readL_cons] at h
      simp only [List.length_cons] at hl ⊢
      split at h
      · split at h
        · cases h; exact Nat.lt_succ_self _
        · cases h
      · split at h
        · cases t with
          | nil => cases h
          | cons d t' =>
            simp only [List.length_cons] at hl ⊢
            simp only at h
            split at h
            · cases q : readL t' with
              | none => rw [q] at h; cases h
              | some p =>
                rw [q] at h; cases h
                have := ih t' (by omega) p.1 p.2 q
                omega
            · cases h
        · cases q : readL t with
          | none => rw [q] at h; cases h
          | some p =>
            rw [q] at h; cases h
            have := ih t (by omega) p.1 p.2 q
            omega
def plainC (c : Nat) : Bool := c != 32 && c != 34
def wordsN : Nat → List Nat → Option (List (List Nat × Bool))
  | 0, _ => none
  | _ + 1, [] => some []
  | n + 1, c :: r =>
    if c = 32 then wordsN n r
    else if c = 33 then some []
    else if c = 34 then
      match readL r with
      | none => none
      | some p => (wordsN n p.2).map ((p.1, true) :: ·)
    else if ((c :: r).dropWhile plainC).head? = some 34 then none
    else (wordsN n ((c :: r).dropWhile plainC)).map (((c :: r).takeWhile plainC, false) :: ·)
theorem drop_lt {c : Nat} {r : List Nat} (h1 : c ≠ 32) (h2 : c ≠ 34) : ((c :: r).dropWhile plainC).length ≤ r.length := by
  have : plainC c = true := by simp [plainC, h1, h2]
  rw [List.dropWhile_cons, if_pos this]
  exact (List.dropWhile_sublist _).length_le
theorem wordsN_stable : ∀ (n : Nat) (m : Nat) (l : List Nat), l.length < n → l.length < m → wordsN n l = wordsN m l := by
  intro n
  induction n with
  | zero => intro m l h; omega
  | succ n ih =>
    intro m l hn hm
    cases m with
    | zero => omega
    | succ m =>
      cases l with
      | nil => rfl
      | cons c r =>
        simp only [List.length_cons] at hn hm
        rw [wordsN, wordsN]
        split
        · exact ih m r (by omega) (by omega)
        · split
          · rfl
          · split
            · split
              · rfl
              · rename_i p hp
                have := readL_len _ r (Nat.le_refl _) p.1 p.2 hp
                rw [ih m p.2 (by omega) (by omega)]
            · rename_i h1 h2 h3
              have := drop_lt (r := r) h1 h3
              rw [ih m _ (by omega) (by omega)]
def wordsL (l : List Nat) : Option (List (List Nat × Bool)) := wordsN (l.length + 1) l
theorem wordsL_nil : wordsL [] = some [] := rfl
theorem wordsL_blank (r : List Nat) : wordsL (32 :: r) = wordsL r := by
  unfold wordsL
  rw [wordsN, if_pos rfl]
  rfl
theorem wordsL_rem (r : List Nat) : wordsL (33 :: r) = some [] := rfl
theorem wordsL_quote {r w t : List Nat} (h : readL r = some (w, t)) : wordsL (34 :: r) = (wordsL t).map ((w, true) :: ·) := by
  unfold wordsL
  rw [wordsN, if_neg (by decide), if_neg (by decide), if_pos rfl, h]
  have := readL_len _ r (Nat.le_refl _) w t h
  dsimp only
  rw [wordsN_stable (34 :: r).length (t.length + 1) t (by simp only [List.length_cons]; omega) (by omega)]
theorem wordsL_quote_none {r : List Nat} (h : readL r = none) : wordsL (34 :: r) = none := by
  unfold wordsL
  rw [wordsN, if_neg (by decide), if_neg (by decide), if_pos rfl, h]
theorem span_split {w r : List Nat} (hw : ∀ c ∈ w, plainC c = true) (hr : r = [] ∨ ∃ c t, r = c :: t ∧ plainC c = false) : (w ++ r).dropWhile plainC = r ∧ (w ++ r).takeWhile plainC = w := by
  induction w with
  | nil =>
    rcases hr with rfl | ⟨c, t, rfl, h⟩
    · exact ⟨rfl, rfl⟩
    · simp [h]
  | cons a w ih =>
    have := ih fun c hc => hw c (.tail _ hc)
    have ha := hw a (.head _)
    rw [List.cons_append, List.dropWhile_cons, List.takeWhile_cons, if_pos ha, if_pos ha, this.1, this.2]
    exact ⟨rfl, rfl⟩
theorem wordsL_plain {c : Nat} {w r : List Nat} (hw : ∀ a ∈ c :: w, plainC a = true) (hc : c ≠ 33) (hr : r = [] ∨ ∃ t, r = 32 :: t) : wordsL (c :: w ++ r) = (wordsL r).map ((c :: w, false) :: ·) := by
  have h0 := hw c (.head _)
  simp only [plainC, Bool.and_eq_true, bne_iff_ne, ne_eq] at h0
  have hs := span_split (r := r) hw (hr.imp id fun ⟨t, e⟩ => ⟨32, t, e, rfl⟩)
  unfold wordsL
  rw [List.cons_append] at hs ⊢
  rw [wordsN, if_neg h0.1, if_neg hc, if_neg h0.2, hs.1, hs.2, if_neg (by rcases hr with rfl | ⟨t, rfl⟩ <;> simp)]
  rw [wordsN_stable _ (r.length + 1) r (by simp only [List.length_cons, List.length_append]; omega) (by omega)]
theorem wordsL_plain_none {c : Nat} {w r : List Nat} (hw : ∀ a ∈ c :: w, plainC a = true) (hc : c ≠ 33) : wordsL (c :: w ++ 34 :: r) = none := by
  have h0 := hw c (.head _)
  simp only [plainC, Bool.and_eq_true, bne_iff_ne, ne_eq] at h0
  have hs := span_split (r := 34 :: r) hw (.inr ⟨34, r, rfl, rfl⟩)
  unfold wordsL
  rw [List.cons_append] at hs ⊢
  rw [wordsN, if_neg h0.1, if_neg hc, if_neg h0.2, hs.1]; rfl
/-- a row's text told so far: whatever stands behind it -/
def RowOk (t : List Nat) (due : List (List Nat × Bool)) : Prop := ∀ b, wordsL (t ++ b) = (wordsL b).map (due ++ ·)
theorem map_nil (o : Option (List (List Nat × Bool))) : o.map ([] ++ ·) = o := by cases o <;> rfl
theorem RowOk.start {t : List Nat} (h : ∀ c ∈ t, c = 32) : RowOk t [] := by
  intro b
  rw [map_nil]
  induction t with
  | nil => rfl
  | cons c t ih =>
    obtain rfl := h c (.head _)
    rw [List.cons_append, wordsL_blank]
    exact ih fun c hc => h c (.tail _ hc)
theorem RowOk.blanks {bl : List Nat} (h : ∀ c ∈ bl, c = 32) (b : List Nat) : wordsL (bl ++ b) = wordsL b := by
  have := RowOk.start h b
  rwa [map_nil] at this
theorem RowOk.add {t w bl : List Nat} {due : List (List Nat × Bool)} {d : List Nat × Bool} (h : RowOk t due) (hw : ∀ b, wordsL (w ++ 32 :: b) = (wordsL (32 :: b)).map (d :: ·)) (hb : ∀ c ∈ bl, c = 32) (h0 : bl ≠ []) : RowOk (t ++ w ++ bl) (due ++ [d]) := by
  intro b
  cases bl with
  | nil => exact absurd rfl h0
  | cons c bl =>
    obtain rfl := hb c (.head _)
    rw [List.append_assoc, List.append_assoc, h, List.cons_append, hw, wordsL_blank, RowOk.blanks fun c hc => hb c (.tail _ hc)]
    cases wordsL b with
    | none => rfl
    | some l => simp
theorem RowOk.word {w : List Nat} (h0 : w ≠ []) (hw : ∀ a ∈ w, plainC a = true) (hc : w.head? ≠ some 33) (b : List Nat) : wordsL (w ++ 32 :: b) = (wordsL (32 :: b)).map ((w, false) :: ·) := by
  cases w with
  | nil => exact absurd rfl h0
  | cons c w => exact wordsL_plain hw (fun e => hc (by rw [e]; rfl)) (.inr ⟨b, rfl⟩)
theorem RowOk.quoted (x b : List Nat) : wordsL ((34 :: esc x ++ [34]) ++ 32 :: b) = (wordsL (32 :: b)).map ((x, true) :: ·) := by
  have e : (34 :: esc x ++ [34]) ++ 32 :: b = 34 :: (esc x ++ 34 :: (32 :: b)) := by simp
  rw [e]
  exact wordsL_quote (by rw [readL_esc]; rfl)
theorem RowOk.fin {t b : List Nat} {due : List (List Nat × Bool)} (h : RowOk t due) (hb : wordsL b = some []) : wordsL (t ++ b) = some due := by
  rw [h, hb]; simp
theorem intS_cp {n : Int} (h : 0 ≤ n) : cp (intS n) = (Nat.toDigits 10 n.toNat).map Char.toNat := by
  obtain ⟨m, rfl⟩ := Int.eq_ofNat_of_zero_le h
  exact KIN.signs_num m
theorem digits_ne (m : Nat) : Nat.toDigits 10 m ≠ [] := fun e => by
  have h := toDigits_len_ge 10 m
  rw [e] at h
  exact absurd h (by decide)
theorem digit_zero : ∀ d : Nat, d < 10 → d ≠ 0 → Nat.digitChar d ≠ '0' := by decide
theorem digits_head (m : Nat) (h0 : m ≠ 0) : (Nat.toDigits 10 m).head? ≠ some '0' := by
  induction m using Nat.strongRecOn with
  | _ m ih =>
    by_cases h : m < 10
    · rw [Nat.toDigits_of_lt_base h]
      intro e
      exact digit_zero m h h0 (by simpa using e)
    · have hm : m % 10 < 10 := Nat.mod_lt m (by decide)
      have t : Nat.toDigits 10 (m / 10) ++ Nat.toDigits 10 (m % 10) = Nat.toDigits 10 (10 * (m / 10) + m % 10) := Nat.toDigits_append_toDigits (by decide) (by omega) hm
      rw [Nat.div_add_mod] at t
      rw [← t, List.head?_append]
      have h1 := ih (m / 10) (by omega) (by omega)
      cases q : (Nat.toDigits 10 (m / 10)).head? with
      | none => exact absurd (List.head?_eq_none_iff.mp q) (digits_ne _)
      | some c => rw [q] at h1; exact h1
theorem intS_fig {n : Int} (h : 0 ≤ n) : ∀ c ∈ cp (intS n), isFig c = true := by
  intro c hc
  rw [intS_cp h] at hc
  obtain ⟨ch, hch, e⟩ := List.mem_map.mp hc
  have r := digit_range (Nat.isDigit_of_mem_toDigits (by decide) (by decide) hch)
  rw [← e]
  simp only [isFig, Bool.and_eq_true, decide_eq_true_eq]
  exact r
theorem intS_val {n : Int} (h : 0 ≤ n) : numVal (intS n) = n := by
  show ((NumText.digitsVal (cp (intS n)) : Nat) : Int) = n
  rw [intS_cp h, KIN.val_back]
  omega
theorem char_zero {ch : Char} (h : ch.toNat = 48) : ch = '0' := by
  apply Char.ext
  apply UInt32.toNat.inj
  exact h
theorem intS_ok {n : Int} (h : 0 ≤ n ∧ n < 10000000000) : numOk (intS n) := by
  have hl := intS_len h
  rw [len_list] at hl
  refine ⟨?_, hl, intS_fig h.1, ?_⟩
  · show cp (intS n) ≠ []
    rw [intS_cp h.1]
    simp [digits_ne]
  · rintro ⟨h1, h2⟩
    have h1 : 1 < (cp (intS n)).length := h1
    have h2 : (cp (intS n)).head? = some 48 := h2
    rw [intS_cp h.1] at h1 h2
    rw [List.head?_map] at h2
    have h0 : n.toNat ≠ 0 := fun e => by
      rw [e] at h1
      exact absurd h1 (by decide)
    cases q : (Nat.toDigits 10 n.toNat).head? with
    | none => rw [q] at h2; cases h2
    | some ch =>
      rw [q] at h2
      exact digits_head _ h0 (by rw [q, char_zero (Option.some.inj h2)])
theorem fig_no {n : Int} {c : Nat} (h : 0 ≤ n) (hc : isFig c = false) : c ∉ cp (intS n) := fun hm => by
  rw [intS_fig h c hm] at hc; cases hc
theorem ofS (s : String) (l : List Nat) (h : cp (Str.ofString s) = l) : Str.ofString s = ⟨l.toArray⟩ := cp_inj h
theorem pairText_cp (p : Int × Int) : cp (pairText p) = if p.1 = p.2 then cp (intS p.1) else cp (intS p.1) ++ 45 :: cp (intS p.2) := by
  unfold pairText
  split
  · rfl
  · have e : cp (Str.ofString "-") = [45] := by decide
    unfold cp at *
    simp only [PySem.Str.cps_append, Array.toList_append, e]
    simp
theorem pair_split {p : Int × Int} (h1 : 0 ≤ p.1) (h2 : 0 ≤ p.2) : Txt.split (pairText p) (Str.ofString "-") = if p.1 = p.2 then [intS p.1] else [intS p.1, intS p.2] := by
  have e : Str.ofString "-" = ⟨#[45]⟩ := by decide
  rw [e]
  apply map_cp_inj
  have a := fig_no h1 (c := 45) (by decide)
  have b := fig_no h2 (c := 45) (by decide)
  split
  · rename_i h
    refine split_of (by simp) (fun q hq => ?_) ?_
    · simp only [List.map_cons, List.map_nil, List.mem_singleton] at hq; rw [hq]; exact a
    · rw [pairText_cp, if_pos h]; rfl
  · rename_i h
    refine split_of (by simp) (fun q hq => ?_) ?_
    · simp only [List.map_cons, List.map_nil, List.mem_cons, List.not_mem_nil, or_false] at hq
      rcases hq with rfl | rfl
      · exact a
      · exact b
    · rw [pairText_cp, if_neg h]; rfl
theorem pair_free {p : Int × Int} (h1 : 0 ≤ p.1) (h2 : 0 ≤ p.2) : 44 ∉ cp (pairText p) := by
  have a := fig_no h1 (c := 44) (by decide)
  have b := fig_no h2 (c := 44) (by decide)
  rw [pairText_cp]
  split
  · exact a
  · simp only [List.mem_append, List.mem_cons, not_or]
    exact ⟨a, by decide, b⟩
theorem pair_head {p : Int × Int} (h1 : 0 ≤ p.1) : ∃ c r, cp (pairText p) = c :: r ∧ isFig c = true := by
  have hne : cp (intS p.1) ≠ [] := by rw [intS_cp h1]; simp [digits_ne]
  cases q : cp (intS p.1) with
  | nil => exact absurd q hne
  | cons c r =>
    have hc := intS_fig h1 c (by rw [q]; exact .head _)
    rw [pairText_cp, q]
    split
    · exact ⟨c, r, rfl, hc⟩
    · exact ⟨c, _, rfl, hc⟩
theorem numStep_pair {fs : List Int} {p : Int × Int} (h1 : 0 ≤ p.1 ∧ p.1 < 10000000000) (h2 : 0 ≤ p.2 ∧ p.2 < 10000000000) (hle : p.1 ≤ p.2) (hgap : p.2 - p.1 ≤ 5000) (hfs : fs = [] ∨ fs.getLastD 0 < p.1) (hlen : fs.length + (rangeL p.1 (p.2 + 1)).length ≤ 5000) :
    numStep (some fs) (pairText p) = some (fs ++ rangeL p.1 (p.2 + 1)) := by
  have e1 : (Txt.split (pairText p) (Str.ofString "-")).headD Str.empty = intS p.1 := by
    rw [pair_split h1.1 h2.1]; split <;> rfl
  have e2 : (Txt.split (pairText p) (Str.ofString "-")).getLastD Str.empty = intS p.2 := by
    rw [pair_split h1.1 h2.1]
    split
    · rename_i h; rw [← h]; rfl
    · rfl
  have e3 : ¬ 2 < (Txt.split (pairText p) (Str.ofString "-")).length := by
    rw [pair_split h1.1 h2.1]; split <;> simp
  have e4 : (!fs.isEmpty && decide (p.1 ≤ fs.getLastD 0)) = false := by
    rcases hfs with rfl | h
    · rfl
    · rw [decide_eq_false (by omega), Bool.and_false]
  have e5 : ¬ 5000 < (fs ++ rangeL p.1 (p.2 + 1)).length := by rw [List.length_append]; omega
  simp only [numStep, Option.bind_some, e1, e2, e3, (numOk_iff _).mp (intS_ok h1), (numOk_iff _).mp (intS_ok h2), intS_val h1.1, intS_val h2.1, decide_eq_false (show ¬ p.2 < p.1 by omega), decide_eq_false (show ¬ 5000 < p.2 - p.1 by omega), e4, e5, Bool.and_self, Bool.not_true, Bool.or_self, Bool.false_eq_true, if_false]

/-- the numbers that runs tell -/
def flat (ps : List (Int × Int)) : List Int := ps.flatMap fun p => rangeL p.1 (p.2 + 1)
theorem rangeL_one (n : Int) : rangeL n (n + 1) = [n] := by
  unfold rangeL
  rw [show (n + 1 - n).toNat = 1 by omega]
  simp
theorem rangeL_snoc {a b : Int} (h : a ≤ b) : rangeL a (b + 1) = rangeL a b ++ [b] := by
  unfold rangeL
  rw [show (b + 1 - a).toNat = (b - a).toNat + 1 by omega, List.range_succ, List.map_append]
  congr 1
  simp only [List.map_cons, List.map_nil, List.cons.injEq, and_true]
  omega
theorem flat_snoc (ps : List (Int × Int)) (p : Int × Int) : flat (ps ++ [p]) = flat ps ++ rangeL p.1 (p.2 + 1) := by
  simp [flat]
theorem ranges_snoc (ns : List Int) (n : Int) : rangesF (ns ++ [n]) = rangeStep (rangesF ns) n := by
  unfold rangesF; rw [List.foldl_append]; rfl
/-- what is so of the runs of rising numbers -/
structure Runs (ns : List Int) : Prop where
  flat : flat (rangesF ns) = ns
  le : ∀ p ∈ rangesF ns, p.1 ≤ p.2
  sep : (rangesF ns).Pairwise fun p q => p.2 + 1 < q.1
  last : (rangesF ns).getLast?.map (·.2) = ns.getLast?
  fsts : ns.filter (fun n => decide (n - 1 ∉ ns)) = (rangesF ns).map (·.1)
  lsts : ns.filter (fun n => decide (n + 1 ∉ ns)) = (rangesF ns).map (·.2)
theorem snocInd {P : List Int → Prop} (h0 : P []) (h1 : ∀ ns n, P ns → P (ns ++ [n])) (ns : List Int) : P ns := by
  have key : ∀ (k : Nat) (ns : List Int), ns.length = k → P ns := by
    intro k
    induction k with
    | zero => intro ns h; cases ns with | nil => exact h0 | cons _ _ => cases h
    | succ k ih =>
      intro ns h
      rcases snoc_or ns with rfl | ⟨i, a, rfl⟩
      · cases h
      · exact h1 i a (ih i (by simpa using h))
  exact key _ ns rfl
theorem runs_of (ns : List Int) (h : ns.Pairwise (· < ·)) : Runs ns := by
  induction ns using snocInd with
  | h0 => exact ⟨rfl, (fun _ h => nomatch h), .nil, rfl, rfl, rfl⟩
  | h1 ns n ih =>
    obtain ⟨hp, _, hlt⟩ := List.pairwise_append.mp h
    have hlt : ∀ a ∈ ns, a < n := fun a ha => hlt a ha n (.head _)
    have R := ih hp
    clear ih
    have hf : (ns ++ [n]).filter (fun m => decide (m - 1 ∉ ns ++ [n])) = ns.filter (fun m => decide (m - 1 ∉ ns)) ++ (if n - 1 ∈ ns then [] else [n]) := by
      rw [List.filter_append]
      congr 1
      · refine List.filter_congr fun m hm => ?_
        have := hlt m hm
        simp only [List.mem_append, List.mem_singleton, not_or, decide_eq_decide]
        exact ⟨fun z => z.1, fun z => ⟨z, by omega⟩⟩
      · simp only [List.filter_cons, List.filter_nil, List.mem_append, List.mem_singleton]
        by_cases hm : n - 1 ∈ ns
        · simp [hm]
        · simp [hm]; omega
    have hl : (ns ++ [n]).filter (fun m => decide (m + 1 ∉ ns ++ [n])) = (ns.filter (fun m => decide (m + 1 ∉ ns))).filter (fun m => decide (m + 1 ≠ n)) ++ [n] := by
      rw [List.filter_append, List.filter_filter]
      congr 1
      · refine List.filter_congr fun m hm => ?_
        simp only [List.mem_append, List.mem_singleton, not_or, ne_eq, decide_not, Bool.decide_and]
        rw [Bool.and_comm]
      · have h1 : n + 1 ∉ ns := fun hm => by have := hlt _ hm; omega
        simp [h1]; omega
    rw [R.fsts] at hf
    rw [R.lsts] at hl
    rcases snoc_or (rangesF ns) with e | ⟨pi, p, e⟩
    · have hn : ns = [] := by have := R.flat; rw [e] at this; exact this.symm
      subst hn
      have e1 : rangesF ([] ++ [n]) = [(n, n)] := rfl
      refine ⟨?_, ?_, ?_, ?_, ?_, ?_⟩
      · rw [e1]; show rangeL n (n + 1) ++ [] = _; rw [rangeL_one]; rfl
      · rw [e1]; intro q hq; rw [List.mem_singleton.mp hq]; exact Int.le_refl _
      · rw [e1]; exact List.pairwise_singleton _ _
      · rw [e1]; rfl
      · rw [hf, e1, e]; simp
      · rw [hl, e1, e]; simp
    · have hlast : ns.getLast? = some p.2 := by rw [← R.last, e]; simp
      have hple := R.le p (by rw [e]; simp)
      have hsep := R.sep
      rw [e, List.pairwise_append] at hsep
      have hpmem : p.2 ∈ ns := List.mem_of_getLast? hlast
      have hpn := hlt _ hpmem
      have hmax : ∀ a ∈ ns, a ≤ p.2 := by
        rcases snoc_or ns with e2 | ⟨i, a, e2⟩
        · rw [e2] at hpmem; cases hpmem
        · rw [e2, List.getLast?_concat] at hlast
          cases hlast
          rw [e2] at hp
          obtain ⟨_, _, h3⟩ := List.pairwise_append.mp hp
          intro b hb
          rw [e2] at hb
          rcases List.mem_append.mp hb with hb | hb
          · exact Int.le_of_lt (h3 b hb _ (.head _))
          · rw [List.mem_singleton.mp hb]; exact Int.le_refl _
      have hflat : flat pi ++ rangeL p.1 (p.2 + 1) = ns := by rw [← flat_snoc, ← e]; exact R.flat
      by_cases hn : n = p.2 + 1
      · have e1 : rangesF (ns ++ [n]) = pi ++ [(p.1, n)] := by
          rw [ranges_snoc, e]
          unfold rangeStep
          rw [List.getLast?_concat]
          simp only [if_pos hn, List.dropLast_concat]
        have hin : n - 1 ∈ ns := by rw [hn, show p.2 + 1 - 1 = p.2 by omega]; exact hpmem
        refine ⟨?_, ?_, ?_, ?_, ?_, ?_⟩
        · rw [e1, flat_snoc]
          show flat pi ++ rangeL p.1 (n + 1) = _
          rw [rangeL_snoc (by omega), ← List.append_assoc, hn, hflat]
        · rw [e1]
          intro q hq
          rcases List.mem_append.mp hq with hq | hq
          · exact R.le q (by rw [e]; exact List.mem_append_left _ hq)
          · rw [List.mem_singleton.mp hq]; show p.1 ≤ n; omega
        · rw [e1, List.pairwise_append]
          exact ⟨hsep.1, List.pairwise_singleton _ _, fun a ha b hb => by rw [List.mem_singleton.mp hb]; exact hsep.2.2 a ha p (.head _)⟩
        · rw [e1]; simp
        · rw [hf, e1, e, if_pos hin]; simp
        · rw [hl, e1, e]
          simp only [List.map_append, List.map_cons, List.map_nil, List.filter_append]
          congr 1
          have h1 : pi.map (·.2) = (pi.map (·.2)).filter (fun m => decide (m + 1 ≠ n)) := by
            symm
            rw [List.filter_eq_self]
            intro m hm
            obtain ⟨q, hq, rfl⟩ := List.mem_map.mp hm
            have := hsep.2.2 q hq p (.head _)
            have : q.2 + 1 ≠ n := by omega
            simp [this]
          rw [← h1]
          simp [hn]
      · have e1 : rangesF (ns ++ [n]) = pi ++ [p] ++ [(n, n)] := by
          rw [ranges_snoc, e]
          unfold rangeStep
          rw [List.getLast?_concat]
          simp only [if_neg hn]
        have hin : ¬ n - 1 ∈ ns := fun hm => by have := hmax _ hm; omega
        refine ⟨?_, ?_, ?_, ?_, ?_, ?_⟩
        · rw [e1, flat_snoc, ← e, R.flat]
          show ns ++ rangeL n (n + 1) = _
          rw [rangeL_one]
        · rw [e1, ← e]
          intro q hq
          rcases List.mem_append.mp hq with hq | hq
          · exact R.le q hq
          · rw [List.mem_singleton.mp hq]; exact Int.le_refl _
        · rw [e1, ← e, List.pairwise_append]
          refine ⟨R.sep, List.pairwise_singleton _ _, fun a ha b hb => ?_⟩
          rw [List.mem_singleton.mp hb]
          show a.2 + 1 < n
          rw [e] at ha
          rcases List.mem_append.mp ha with ha | ha
          · have := hsep.2.2 a ha p (.head _)
            omega
          · rw [List.mem_singleton.mp ha]; omega
        · rw [e1]; simp
        · rw [hf, e1, e, if_neg hin]; simp
        · rw [hl, e1, e, show (pi ++ [p] ++ [(n, n)]).map (·.2) = (pi ++ [p]).map (·.2) ++ [n] by simp]
          congr 1
          rw [List.filter_eq_self]
          intro m hm
          have hm : m ∈ (pi ++ [p]).map (·.2) := hm
          obtain ⟨q, hq, rfl⟩ := List.mem_map.mp hm
          have : q.2 ≤ p.2 := by
            rcases List.mem_append.mp hq with hq | hq
            · have h1 := hsep.2.2 q hq p (.head _)
              omega
            · rw [List.mem_singleton.mp hq]; exact Int.le_refl _
          have : q.2 + 1 ≠ n := by omega
          simp [this]
theorem rangeL_last {a b : Int} (h : a ≤ b) (fs : List Int) : (fs ++ rangeL a (b + 1)).getLastD 0 = b := by
  rw [rangeL_snoc h, ← List.append_assoc]
  simp
theorem fold_pairs : ∀ (ps : List (Int × Int)) (fs : List Int), (∀ p ∈ ps, p.1 ≤ p.2 ∧ 0 ≤ p.1 ∧ p.2 < 5000) → ps.Pairwise (fun p q => p.2 + 1 < q.1) → (fs = [] ∨ ∀ p ∈ ps, fs.getLastD 0 < p.1) → fs.length + (flat ps).length ≤ 5000 →
    (ps.map pairText).foldl numStep (some fs) = some (fs ++ flat ps)
  | [], fs, _, _, _, _ => by simp [flat]
  | p :: ps, fs, hb, hs, hf, hl => by
    have hp := hb p (.head _)
    have e : flat (p :: ps) = rangeL p.1 (p.2 + 1) ++ flat ps := rfl
    rw [e, List.length_append] at hl
    rw [List.map_cons, List.foldl_cons, numStep_pair (by omega) (by omega) hp.1 (by omega) (hf.imp id fun h => h p (.head _)) (by omega)]
    rw [List.pairwise_cons] at hs
    rw [fold_pairs ps _ (fun q hq => hb q (.tail _ hq)) hs.2 (.inr fun q hq => by rw [rangeL_last hp.1]; have := hs.1 q hq; omega) (by rw [List.length_append]; omega), e, List.append_assoc]
theorem numsText_none {ns : List Int} (hr : Rise ns) (h : ns ≠ []) : ∃ p r, rangesF ns = p :: r ∧ 0 ≤ p.1 := by
  have R := runs_of ns hr.1
  cases q : rangesF ns with
  | nil => have := R.flat; rw [q] at this; exact absurd this.symm h
  | cons p r => exact ⟨p, r, rfl, (hr.2 p.1 (ranges_mem p (by rw [q]; exact .head _)).1).1⟩
/-- what is told of rising numbers is read back -/
theorem nums_back {ns : List Int} (hr : Rise ns) (hl : ns.length ≤ 5000) : numsOf (numsText ns) = some ns := by
  by_cases h : ns = []
  · subst h; rfl
  · obtain ⟨p, r, hpr, h0⟩ := numsText_none hr h
    have R := runs_of ns hr.1
    have e44 : Str.ofString "," = ⟨#[44]⟩ := by decide
    have hb : ∀ q ∈ rangesF ns, 0 ≤ q.1 ∧ q.1 < 5000 ∧ 0 ≤ q.2 ∧ q.2 < 5000 := fun q hq => by
      have := hr.2 _ (ranges_mem q hq).1
      have := hr.2 _ (ranges_mem q hq).2
      omega
    have hx : numsText ns = Str.join (Str.ofString ",") ((rangesF ns).map pairText) := by unfold numsText; rw [if_neg h]
    have hcp : cp (numsText ns) = jn 44 (((rangesF ns).map pairText).map cp) := by rw [hx, e44, join_jn]
    have hsp : Txt.split (numsText ns) (Str.ofString ",") = (rangesF ns).map pairText := by
      rw [e44]
      apply map_cp_inj
      refine split_of (by rw [hpr]; simp) (fun q hq => ?_) hcp
      obtain ⟨y, hy, rfl⟩ := List.mem_map.mp hq
      obtain ⟨q', hq', rfl⟩ := List.mem_map.mp hy
      have := hb q' hq'
      exact pair_free this.1 this.2.2.1
    have hne : (numsText ns == Str.ofString "none") = false := by
      rw [beq_eq_false_iff_ne]
      intro e
      have hc := hcp
      rw [e, show cp (Str.ofString "none") = [110, 111, 110, 101] by decide, hpr] at hc
      obtain ⟨c, t, h1, h2⟩ := pair_head (p := p) h0
      have : ∃ z, jn 44 (((p :: r).map pairText).map cp) = c :: z := by
        cases r with
        | nil => exact ⟨t, by show cp (pairText p) = _; exact h1⟩
        | cons q r' => exact ⟨t ++ 44 :: jn 44 (((q :: r').map pairText).map cp), by show cp (pairText p) ++ _ = _; rw [h1]; rfl⟩
      obtain ⟨z, hz⟩ := this
      rw [hz] at hc
      cases hc
      exact absurd h2 (by decide)
    unfold numsOf
    rw [hne, if_neg (by decide), hsp, fold_pairs _ [] (fun q hq => by have := hb q hq; have := R.le q hq; omega) R.sep (.inl rfl) (by rw [R.flat]; simpa using hl), R.flat]
    rfl
theorem fresh_D8 : True := by (w_top off); trivial
def InvQ (x : Str) (m₀ : Str → Option Value) (i : Nat) (m : Str → Option Value) (nw : Led) : Prop :=
  ∃ u f t, m = (fun y => if y = Str.ofString "found" then some (.str f t) else tm [Str.ofString "sign"] u m₀ y) ∧ nw = [] ∧ cp f = esc ((cp x).take i) ∧ f.length ≤ 2000
theorem esc_len : ∀ (l : List Nat), (esc l).length ≤ 2 * l.length
  | [] => Nat.zero_le _
  | a :: l => by
    have ih := esc_len l
    have e : esc (a :: l) = (if a = 92 ∨ a = 34 then [92, a] else [a]) ++ esc l := List.flatMap_cons
    rw [e, List.length_append, List.length_cons]
    split <;> simp only [List.length_cons, List.length_nil] <;> omega
theorem esc_snoc (l : List Nat) (c : Nat) : esc (l ++ [c]) = esc l ++ (if c = 92 ∨ c = 34 then [92, c] else [c]) := by
  simp [esc]
theorem cp_app (x y : Str) : cp (x ++ y) = cp x ++ cp y := by simp [cp, PySem.Str.cps_append]
theorem cp_one (c : Nat) : cp ⟨#[c]⟩ = [c] := rfl
theorem quote_any (c : Nat) : ([Str.ofString "\"", Str.ofString "\\"].any fun x => x == (⟨#[c]⟩ : Str)) = decide (c = 92 ∨ c = 34) := by
  have e1 : Str.ofString "\"" = ⟨#[34]⟩ := by decide
  have e2 : Str.ofString "\\" = ⟨#[92]⟩ := by decide
  have k : ∀ a : Nat, ((⟨#[a]⟩ : Str) == ⟨#[c]⟩) = decide (a = c) := fun a => by
    rw [Bool.eq_iff_iff, beq_iff_eq, decide_eq_true_eq]
    constructor
    · intro h; have := congrArg cp h; simpa [cp] using this
    · rintro rfl; rfl
  rw [e1, e2, List.any_cons, List.any_cons, List.any_nil, k, k, Bool.or_false, Bool.eq_iff_iff]
  simp only [Bool.or_eq_true, decide_eq_true_eq]
  omega
theorem invq_end {x f f' : Str} {i c : Nat} (hx : x.length ≤ 1000) (hc : x.cps[i]? = some c) (hf : cp f = esc ((cp x).take i)) (h : cp f' = cp f ++ (if c = 92 ∨ c = 34 then [92, c] else [c])) : cp f' = esc ((cp x).take (i + 1)) ∧ f'.length ≤ 2000 := by
  have hc' : (cp x)[i]? = some c := by simpa [cp] using hc
  have e : cp f' = esc ((cp x).take (i + 1)) := by
    rw [List.take_add_one, hc']
    show _ = esc (_ ++ [c])
    rw [esc_snoc, h, hf]
  refine ⟨e, ?_⟩
  rw [len_list, show f'.cps.toList = _ from e]
  refine Nat.le_trans (esc_len _) ?_
  rw [List.length_take]
  rw [len_list] at hx
  have : (cp x).length ≤ 1000 := hx
  omega
theorem stop_iterS {M : Model} {prog : Program} {w : World} {A A' : Around} {E E' : Value → Shared → Prop} {Q : Value → Shared → Prop} {Qf : Flow → Shared → Prop} {s : Shared} {y : Str} {u : Tok} {x : Str} {h₀ : Heap} {env : Env} {body : List Stmt} (h : Stop (wpAny M A (pyIter (.str y u)) (fun it s₂ => LoopAtV prog w A' h₀ env x body Qf E' it s₂) E s)) : wpAny M A (pyIter (.str y u)) (fun it s₂ => LoopAtV prog w A' h₀ env x body Qf E' it s₂) E s := h
section
local macro_rules | `(tactic| walk_at "exec For Name Name cons nil") => `(tactic| (k_here; with_unfolding_all refine For_invVF (by k_asm) (by exact rfl) (by exact rfl) ?_))
local macro_rules | `(tactic| walk_at "pyIter str") => `(tactic| (with_reducible refine stop_iterS ?_))
theorem lquoted_ok (w : World) (x : Str) (t : Tok) (hx : x.length ≤ 1000) :
    Spec0 w 177 [.str x t] [] (fun v new => (∃ t : Tok, v = .str (quoteS x) t) ∧ new = []) False 5 100 := by
  unfold Spec0 SpecG KK PR
  k_fill
  intro loose mean mg mb dp un gd envs base g s R B X T hk hsz hp hd hu hret hexc
  (k_dflt refine code_sep (h := ?_)); k_whole; intro L' h' tk' mp F' N'; (try dsimp only [List.nil_append, List.cons_append] at N'); intro ev Ar Mo; (try dsimp only); (try k_fold)
  k_steps
  refine' for_srcM (keep := []) (news := []) (InvQ x) ?F ?N (src_str ?h1) (List.forall_mem_nil _) ?init ?turn ?fin
  case F => k_asm
  case N => exact fun _ h => nomatch h
  case h1 => rfl
  case init => exact ⟨_, Str.ofString "", _, tm1_self (by with_unfolding_all rfl), rfl, by rw [List.take_zero]; decide, by decide⟩
  case turn =>
    rintro I i v m nw it h tk hi ⟨c, tv, hc, rfl⟩ ⟨u, f, tf, rfl, rfl, hf, hfl⟩ hne hkeep F N
    (try ((show wpAny _ _ _ _ _ _); k_fold))
    k_steps
    · have hb := ‹(List.any _ _) = true›
      rw [quote_any] at hb
      have hz := invq_end (f' := f ++ (Str.ofString "\\" ++ ⟨#[c]⟩)) hx hc hf (by rw [cp_app, cp_app, cp_one, show cp (Str.ofString "\\") = [92] by decide, if_pos (of_decide_eq_true hb)]; rfl)
      refine TurnEnd.mk [] (by assumption) (by assumption) (by k_mem) (List.forall_mem_nil _) (List.forall_mem_nil _) (List.forall_mem_nil _) ⟨_, f ++ (Str.ofString "\\" ++ ⟨#[c]⟩), _, (by (refine tm1 (by rfl) ?_; repeat' first | with_reducible exact mq_id | exact mq_tm | refine mq_x ?_ | refine mq_cons (by k_mem) ?_ | exact mq_id)), rfl, hz.1, hz.2⟩
    · have hb := ‹(List.any _ _) = false›
      rw [quote_any] at hb
      have hz := invq_end (f' := f ++ ⟨#[c]⟩) hx hc hf (by rw [cp_app, cp_one, if_neg (of_decide_eq_false hb)])
      refine TurnEnd.mk [] (by assumption) (by assumption) (by k_mem) (List.forall_mem_nil _) (List.forall_mem_nil _) (List.forall_mem_nil _) ⟨_, f ++ ⟨#[c]⟩, _, (by (refine tm1 (by rfl) ?_; repeat' first | with_reducible exact mq_id | exact mq_tm | refine mq_x ?_ | refine mq_cons (by k_mem) ?_ | exact mq_id)), rfl, hz.1, hz.2⟩
  case fin =>
    rintro m nw h tk ⟨u, f, tf, rfl, rfl, hf, hfl⟩ F N
    (try ((show wpAny _ _ _ _ _ _); k_fold))
    k_steps
    try dsimp only
    try k_unfold
    try dsimp only
    have e : Str.ofString "\"" ++ f ++ Str.ofString "\"" = quoteS x := by
      apply cp_inj
      have h1 : (cp x).take x.cps.size = cp x := List.take_of_length_le (by simp [cp])
      rw [h1] at hf
      rw [cp_app, cp_app, hf, show cp (Str.ofString "\"") = [34] by decide]
      unfold quoteS cp
      simp
    rw [e]
    exact hret _ [] [] _ _ (Fr.keep (by assumption)) (fun _ h => nomatch h) (fun _ h => nomatch h) ⟨rfl, ⟨_, rfl⟩, rfl⟩
end
section
open PySem.Builtin PySem.Builtin.Str
theorem indices_up {n : Nat} {i j : Int} (h : (n : Int) ≤ j) : strSliceIndices (some i) (some j) 1 n = strSliceIndices (some i) (some (n : Int)) 1 n := by
  have h0 : ¬ j < 0 := by omega
  have h1 : ¬ ((n : Int) < 0) := by omega
  have h2 : (1 : Int) > 0 := by decide
  simp only [strSliceIndices, h0, h1, h2, if_false, if_true, Int.min_eq_right h, Int.min_self]
theorem slice_one {x : Str} {i j : Int} (h0 : 0 ≤ i) (h1 : i ≤ x.length) (hj : j = i + 1) : cp (Txt.slice x (some i) (some j)) = ((cp x).drop i.toNat).take 1 := by
  subst hj
  have hl := len_list x
  by_cases h : i < x.length
  · have e := beq_iff_eq.mp (slice_closesL (x := x) (i := i) (j := i + 1) h0 (by omega) (by omega))
    rw [e, show (i + 1 - i).toNat = 1 by omega]
  · have e1 : Txt.slice x (some i) (some (i + 1)) = Txt.slice x (some i) (some (x.length : Int)) := by
      unfold Txt.slice
      rw [indices_up (by omega)]
    have e := beq_iff_eq.mp (slice_closesL (x := x) (i := i) (j := (x.length : Int)) h0 (by omega) (by omega))
    rw [e1, e, show ((x.length : Int) - i).toNat = 0 by omega]
    have : (cp x).drop i.toNat = [] := List.drop_eq_nil_of_le (by show x.cps.toList.length ≤ _; omega)
    rw [this]
    rfl
theorem item_at {x : Str} {i : Int} (h0 : 0 ≤ i) (h1 : i < x.length) : ∃ c, (cp x).drop i.toNat = c :: (cp x).drop (i.toNat + 1) ∧ Txt.item x i = ⟨#[c]⟩ := by
  have hl := len_list x
  have hi : i.toNat < (cp x).length := by show i.toNat < x.cps.toList.length; omega
  refine ⟨(cp x)[i.toNat], List.drop_eq_getElem_cons hi, item_meets h0 ?_⟩
  rw [← Array.getElem?_toList]
  exact List.getElem?_eq_getElem hi
theorem one_eq (c : Nat) (x : Str) (d : Nat) (h : cp x = [d]) : ((⟨#[c]⟩ : Str) == x) = decide (c = d) := by
  rw [Bool.eq_iff_iff, beq_iff_eq, decide_eq_true_eq]
  constructor
  · rintro rfl; simpa [cp] using h
  · rintro rfl; exact cp_inj (by rw [h])
theorem one_beq (a d : Nat) : (([a] : List Nat) == [d]) = (a == d) := by
  rw [Bool.eq_iff_iff, beq_iff_eq, beq_iff_eq]
  exact ⟨fun h => (List.cons.inj h).1, fun h => by rw [h]⟩
/-- a text of one sign or none, and what stands in a table -/
theorem any_cp (L : List Str) (y : Str) : (L.any fun z => z == y) = (L.map cp).any fun z => z == cp y := by
  rw [List.any_map]
  congr 1
  funext z
  rw [Bool.eq_iff_iff]
  simp only [Function.comp_apply, beq_iff_eq]
  exact ⟨fun h => by rw [h], cp_inj⟩
theorem any_slash {x : Str} {i j : Int} {b : Bool} (h0 : 0 ≤ i) (h1 : i ≤ x.length) (hj : j = i + 1) (h : ([Str.ofString "\\", Str.ofString "\""].any fun z => z == Txt.slice x (some i) (some j)) = b) :
    (match (cp x).drop i.toNat with | [] => false | d :: _ => decide (d = 92 ∨ d = 34)) = b := by
  rw [any_cp, slice_one h0 h1 hj, show [Str.ofString "\\", Str.ofString "\""].map cp = [[92], [34]] by decide] at h
  rw [← h]
  cases (cp x).drop i.toNat with
  | nil => rfl
  | cons d r =>
    rw [Bool.eq_iff_iff, decide_eq_true_eq]
    simp only [List.any_cons, List.any_nil, List.take_succ_cons, List.take_zero, one_beq, Bool.or_false, beq_iff_eq, Bool.or_eq_true]
    omega
theorem any_after {x : Str} {i j : Int} {b : Bool} (h0 : 0 ≤ i) (h1 : i ≤ x.length) (hj : j = i + 1) (h : ([Str.ofString "", Str.ofString " ", Str.ofString "!"].any fun z => z == Txt.slice x (some i) (some j)) = b) :
    okAfter ((cp x).drop i.toNat) = b := by
  rw [any_cp, slice_one h0 h1 hj, show [Str.ofString "", Str.ofString " ", Str.ofString "!"].map cp = [[], [32], [33]] by decide] at h
  rw [← h]
  cases (cp x).drop i.toNat with
  | nil => rfl
  | cons d r =>
    have e : (([] : List Nat) == [d]) = false := rfl
    rw [Bool.eq_iff_iff]
    simp only [okAfter, List.any_cons, List.any_nil, List.take_succ_cons, List.take_zero, one_beq, e, Bool.or_false, Bool.false_or, beq_iff_eq, Bool.or_eq_true]
    omega
theorem flat_join : ∀ (xs : List Str), cp (Str.join (Str.ofString "") xs) = xs.flatMap cp
  | [] => rfl
  | [x] => by simp [Str.join]
  | x :: y :: r => by
    have ih := flat_join (y :: r)
    have e : Str.join (Str.ofString "") (x :: y :: r) = x ++ Str.ofString "" ++ Str.join (Str.ofString "") (y :: r) := rfl
    rw [e, cp_app, cp_app, ih, show cp (Str.ofString "") = [] by decide]
    simp
section
variable {x : Str} {a : Int} {at0 : Nat} {f : List Nat} (ha0 : 0 ≤ a) (ha1 : a ≤ x.length) (hrd : readL ((cp x).drop at0) = (readL ((cp x).drop a.toNat)).map fun p => (f ++ p.1, p.2))
include ha0 ha1 hrd
theorem rd_lone (hlt : a < x.length) (hs : (Txt.item x a == Str.ofString "\\") = true) (hb : ([Str.ofString "\\", Str.ofString "\""].any fun z => z == Txt.slice x (some (a + 1)) (some (a + 1 + 1))) = true) : a + 1 < x.length := by
  have h := any_slash (by omega) (by omega) rfl hb
  have hl := len_list x
  by_cases hz : a + 1 < x.length
  · exact hz
  · rw [List.drop_eq_nil_of_le (by show x.cps.toList.length ≤ _; omega)] at h
    cases h
theorem rd_slash (hlt : a < x.length) (hs : (Txt.item x a == Str.ofString "\\") = true) (hb : ([Str.ofString "\\", Str.ofString "\""].any fun z => z == Txt.slice x (some (a + 1)) (some (a + 1 + 1))) = true) :
    ∃ d, Txt.item x (a + 1) = ⟨#[d]⟩ ∧ d < 128 ∧ readL ((cp x).drop at0) = (readL ((cp x).drop (a + 1 + 1).toNat)).map fun p => (f ++ [d] ++ p.1, p.2) := by
  have h2 := rd_lone ha0 ha1 hrd hlt hs hb
  have h := any_slash (by omega) (by omega) rfl hb
  obtain ⟨c, hc, hi⟩ := item_at ha0 hlt
  obtain ⟨d, hd, hi2⟩ := item_at (i := a + 1) (by omega) h2
  rw [hi, one_eq c _ 92 (by decide), decide_eq_true_eq] at hs
  rw [hd] at h
  have h := of_decide_eq_true h
  refine ⟨d, hi2, by omega, ?_⟩
  rw [show (a + 1).toNat = a.toNat + 1 by omega] at hd
  rw [hrd, hc, hd, hs, readL_cons, if_neg (by decide), if_pos rfl]
  simp only [if_pos h]
  rw [show (a + 1 + 1).toNat = a.toNat + 1 + 1 by omega]
  cases readL ((cp x).drop (a.toNat + 1 + 1)) with
  | none => rfl
  | some p => simp
theorem rd_bad (hlt : a < x.length) (hs : (Txt.item x a == Str.ofString "\\") = true) (hb : ([Str.ofString "\\", Str.ofString "\""].any fun z => z == Txt.slice x (some (a + 1)) (some (a + 1 + 1))) = false) :
    readL ((cp x).drop at0) = none := by
  have h := any_slash (by omega) (by omega) rfl hb
  obtain ⟨c, hc, hi⟩ := item_at ha0 hlt
  rw [hi, one_eq c _ 92 (by decide), decide_eq_true_eq] at hs
  rw [show (a + 1).toNat = a.toNat + 1 by omega] at h
  rw [hrd, hc, hs, readL_cons, if_neg (by decide), if_pos rfl]
  cases q : (cp x).drop (a.toNat + 1) with
  | nil => rfl
  | cons d r =>
    rw [q] at h
    have h := of_decide_eq_false h
    simp only [if_neg h]
    rfl
theorem rd_plain (hA : Asc x) (hlt : a < x.length) (hs : (Txt.item x a == Str.ofString "\\") = false) (hq : (Txt.item x a != Str.ofString "\"") = true) :
    ∃ d, Txt.item x a = ⟨#[d]⟩ ∧ d < 128 ∧ readL ((cp x).drop at0) = (readL ((cp x).drop (a + 1).toNat)).map fun p => (f ++ [d] ++ p.1, p.2) := by
  obtain ⟨c, hc, hi⟩ := item_at ha0 hlt
  rw [hi, one_eq c _ 92 (by decide), decide_eq_false_iff_not] at hs
  rw [hi, bne, one_eq c _ 34 (by decide), Bool.not_eq_true', decide_eq_false_iff_not] at hq
  refine ⟨c, hi, hA c (by have : c ∈ (cp x).drop a.toNat := by rw [hc]; exact .head _
                          exact List.mem_of_mem_drop this), ?_⟩
  rw [hrd, hc, readL_cons, if_neg hq, if_neg hs, show (a + 1).toNat = a.toNat + 1 by omega]
  cases readL ((cp x).drop (a.toNat + 1)) with
  | none => rfl
  | some p => simp
theorem rd_end (he : a = x.length) : readL ((cp x).drop at0) = none := by
  have hl := len_list x
  rw [hrd, List.drop_eq_nil_of_le (by show x.cps.toList.length ≤ _; omega)]
  rfl
theorem rd_close (hlt : a < x.length) (hq : (Txt.item x a != Str.ofString "\"") = false) (hb : ([Str.ofString "", Str.ofString " ", Str.ofString "!"].any fun z => z == Txt.slice x (some (a + 1)) (some (a + 2))) = true) :
    readL ((cp x).drop at0) = some (f, (cp x).drop (a.toNat + 1)) := by
  have h := any_after (by omega) (by omega) (by omega) hb
  obtain ⟨c, hc, hi⟩ := item_at ha0 hlt
  rw [hi, bne, one_eq c _ 34 (by decide), Bool.not_eq_false', decide_eq_true_eq] at hq
  rw [show (a + 1).toNat = a.toNat + 1 by omega] at h
  rw [hrd, hc, hq, readL_cons, if_pos rfl, if_pos h]
  simp
theorem rd_close_bad (hlt : a < x.length) (hq : (Txt.item x a != Str.ofString "\"") = false) (hb : ([Str.ofString "", Str.ofString " ", Str.ofString "!"].any fun z => z == Txt.slice x (some (a + 1)) (some (a + 2))) = false) :
    readL ((cp x).drop at0) = none := by
  have h := any_after (by omega) (by omega) (by omega) hb
  obtain ⟨c, hc, hi⟩ := item_at ha0 hlt
  rw [hi, bne, one_eq c _ 34 (by decide), Bool.not_eq_false', decide_eq_true_eq] at hq
  rw [show (a + 1).toNat = a.toNat + 1 by omega] at h
  rw [hrd, hc, hq, readL_cons, if_pos rfl, if_neg (by rw [h]; decide)]
  rfl
end
end
theorem fresh_E2 : True := by (w_top off); trivial
section
variable {prog : Program} {w : World} {A : Around} {E : Value → Shared → Prop} {Q : Flow → Shared → Prop} {s : Shared} {env : Env} {h₀ : Heap} {L : Addr}
/-- a while by an invariant that speaks of the map at its start -/
theorem while_invM {test : PySem.Expr} {body : List Stmt} {pos : Pos} {m : Str → Option Value} {news : Led} (J : (Str → Option Value) → Nat → (Str → Option Value) → Led → Prop) (n₀ : Nat)
    (F : Fr h₀ L s.heap m) (N : News h₀ L s.heap news) (hE : PassesOwn (model prog w) A env E) (hJ : J m n₀ m news)
    (turn : ∀ n m₁ news₁ h₁ tk₁, J m n m₁ news₁ → Fr h₀ L h₁ m₁ → News h₀ L h₁ news₁ →
      let W := WhileStep2 h₀ L s (J m) Q n
      wpAny (model prog w) A (isTrue test env (eval test env)) (fun b s₂ =>
        if b = true then wpAny (model prog w) A (execs body env) W E s₂ else Q .next s₂) E { s with heap := h₁, toks := tk₁ }) :
    wpAny (model prog w) A (exec (.While test body [] pos) env) Q E s :=
  While_inv2 (J m) F N hJ (fun n m₁ news₁ h₁ tk₁ F₁ N₁ j => turn n m₁ news₁ h₁ tk₁ j F₁ N₁) hE
theorem fold_map {P : Prop} {h : Heap} {m : Str → Option Value} (F : Fr h₀ L h m) (k : let mp := m; Fr h₀ L h mp → P) : P := k F
theorem WEnd.mk {J : Nat → (Str → Option Value) → Led → Prop} {n : Nat} {h' : Heap} {tk : Nat} {m' : Str → Option Value} {all : Led} (n' : Nat) (nw : Led) (F : Fr h₀ L h' m') (N : News h₀ L h' all) (hs : ∀ p ∈ nw, p ∈ all) (hn : n' < n) (hJ : J n' m' nw) :
    WhileStep2 h₀ L s J Q n .next { s with heap := h', toks := tk } := ⟨h', tk, m', nw, n', rfl, F, fun p hp => N p (hs p hp), hn, hJ⟩
end
/-- the loop of read_quoted -/
def InvRd (x : Str) (at0 : Nat) (D : Addr) (m₀ : Str → Option Value) (n : Nat) (m : Str → Option Value) (nw : Led) : Prop :=
  ∃ (a : Int) (t : Tok), ∃ u vs xs k, m = (fun y => if y = Str.ofString "at" then some (.int a t) else tm [] u m₀ y) ∧ nw = [(D, listO vs k)] ∧ StrsAre vs xs ∧ 0 ≤ a ∧ a ≤ x.length ∧ n = (x.length - a).toNat ∧ (∀ s ∈ xs, s.length = 1 ∧ Asc s) ∧ xs.length ≤ a.toNat ∧
    readL ((cp x).drop at0) = (readL ((cp x).drop a.toNat)).map fun p => (xs.flatMap cp ++ p.1, p.2)
@[elab_as_elim] theorem InvRd.out {x : Str} {at0 : Nat} {D : Addr} {m₀ : Str → Option Value} {G : Nat → (Str → Option Value) → Led → Prop} (n : Nat) (m : Str → Option Value) (nw : Led) (H : InvRd x at0 D m₀ n m nw)
    (h : ∀ (a : Int) (t : Tok) u vs xs k, StrsAre vs xs → 0 ≤ a → a ≤ x.length → (∀ s ∈ xs, s.length = 1 ∧ Asc s) → xs.length ≤ a.toNat →
      readL ((cp x).drop at0) = ((readL ((cp x).drop a.toNat)).map fun p => (xs.flatMap cp ++ p.1, p.2)) →
      let m1 : Str → Option Value := fun y => if y = Str.ofString "at" then some (.int a t) else tm [] u m₀ y
      G (x.length - a).toNat m1 [(D, listO vs k)]) : G n m nw := by
  obtain ⟨a, t, u, vs, xs, k, rfl, rfl, hv, h0, h1, rfl, hx, hl, hr⟩ := H
  exact h a t u vs xs k hv h0 h1 hx hl hr
theorem InvRd.mk {x : Str} {at0 : Nat} {D : Addr} {m₀ m : Str → Option Value} (a : Int) {t : Tok} {u : Str → Option Value} {vs : List Value} (xs : List Str) {k : Nat}
    (hm : m = (fun y => if y = Str.ofString "at" then some (.int a t) else tm [] u m₀ y)) (hv : StrsAre vs xs) (h0 : 0 ≤ a) (h1 : a ≤ x.length) (hx : ∀ s ∈ xs, s.length = 1 ∧ Asc s) (hl : xs.length ≤ a.toNat)
    (hr : readL ((cp x).drop at0) = ((readL ((cp x).drop a.toNat)).map fun p => (xs.flatMap cp ++ p.1, p.2))) : InvRd x at0 D m₀ (x.length - a).toNat m [(D, listO vs k)] :=
  ⟨a, t, u, vs, xs, k, hm, rfl, hv, h0, h1, rfl, hx, hl, hr⟩
theorem sign_ok {d : Nat} (h : d < 128) : (⟨#[d]⟩ : Str).length = 1 ∧ Asc ⟨#[d]⟩ := ⟨rfl, fun c hc => by
  have : c ∈ [d] := hc
  rw [List.mem_singleton.mp this]; exact h⟩
theorem signs_snoc {xs : List Str} {d : Nat} (hxs : ∀ s ∈ xs, s.length = 1 ∧ Asc s) (h : d < 128) : ∀ s ∈ xs ++ [(⟨#[d]⟩ : Str)], s.length = 1 ∧ Asc s := fun s hs => by
  rcases List.mem_append.mp hs with hs | hs
  · exact hxs s hs
  · rw [List.mem_singleton.mp hs]; exact sign_ok h
theorem flat_snoc1 (xs : List Str) (d : Nat) : (xs ++ [(⟨#[d]⟩ : Str)]).flatMap cp = xs.flatMap cp ++ [d] := by simp
section
local macro_rules | `(tactic| walk_at "exec While BoolOp cons nil") => `(tactic| refine Stop.mk ?_)
theorem readq_ok (w : World) (x : Str) (t t' t'' : Tok) (at0 row : Int) (hx : x.length ≤ 1000) (ha : Asc x) (h0 : 0 ≤ at0) (h1 : at0 ≤ x.length) :
    Spec0 w 68 [.str x t, .int at0 t', .int row t''] [] (fun v new => ∃ l wd r t1 t2, readL ((cp x).drop at0.toNat) = some (cp wd, r) ∧ v = .ref l ∧ new = [(l, tupO [.str wd t1, .int ((x.length : Int) - r.length) t2])]) (readL ((cp x).drop at0.toNat) = none) 12 200 := by
  unfold Spec0 SpecG KK PR
  k_fill
  intro loose mean mg mb dp un gd envs base g s R B X T hk hsz hp hd hu hret hexc
  (k_dflt refine code_sep (h := ?_)); k_whole; intro L' h' tk' mp F' N'; (try dsimp only [List.nil_append, List.cons_append] at N'); intro ev Ar Mo; (try dsimp only); (try k_fold)
  k_steps
  refine' while_invM (news := [(?D, listO [] 0)]) (InvRd x at0.toNat ?D) (x.length - at0).toNat ?F (News.sub ?N ?sub) ?pass ?init ?turn
  case F => k_asm
  case N => k_asm
  case sub => (repeat' first | exact List.forall_mem_nil _ | refine sub_cons (by k_mem) ?_ | (intro q hq; k_mem))
  case pass => passes_own
  case init => exact .mk at0 [] (tm1_self (by with_unfolding_all rfl)) .nil h0 h1 (fun _ h => nomatch h) (Nat.zero_le _) (by
    cases readL ((cp x).drop at0.toNat) with
    | none => rfl
    | some p => rfl)
  case turn =>
    intro n m nw h tk H
    refine InvRd.out n m nw H ?_
    clear H
    intro a ta u vs xs k hvs ha0 ha1 hxs hxl hrd m1 F N W
    have hvl : vs.length = xs.length := StrsAre.length hvs
    (try ((show wpAny _ _ _ _ _ _); k_fold))
    k_steps
    · have h2 := rd_lone ha0 ha1 hrd (by assumption) (by assumption) (by assumption)
      omega
    · obtain ⟨d, hi, hd, he⟩ := rd_slash ha0 ha1 hrd (by assumption) (by assumption) (by assumption)
      refine WEnd.mk (x.length - (a + 1 + 1)).toNat [(_, listO (vs ++ [.str (Txt.item x (a + 1)) _]) _)] (by assumption) (by assumption) (by (repeat' first | exact List.forall_mem_nil _ | refine sub_cons (by k_mem) ?_ | (intro q hq; k_mem))) (by omega) (.mk (a + 1 + 1) (xs ++ [⟨#[d]⟩]) (by (refine tm1 (by rfl) ?_; repeat' first | with_reducible exact mq_id | exact mq_tm | refine mq_x ?_ | refine mq_cons (by k_mem) ?_ | exact mq_id)) (by rw [hi]; exact strs_snoc hvs) (by omega) (by omega) (signs_snoc hxs hd) (by rw [List.length_append, List.length_singleton]; omega) (by rw [flat_snoc1]; exact he))
    · exact hexc _ _ _ (by assumption) (by assumption) (rd_bad ha0 ha1 hrd (by assumption) (by assumption) (by assumption))
    · obtain ⟨d, hi, hd, he⟩ := rd_plain ha0 ha1 hrd ha (by assumption) (by assumption) (by assumption)
      refine WEnd.mk (x.length - (a + 1)).toNat [(_, listO (vs ++ [.str (Txt.item x a) _]) _)] (by assumption) (by assumption) (by (repeat' first | exact List.forall_mem_nil _ | refine sub_cons (by k_mem) ?_ | (intro q hq; k_mem))) (by omega) (.mk (a + 1) (xs ++ [⟨#[d]⟩]) (by (refine tm1 (by rfl) ?_; repeat' first | with_reducible exact mq_id | exact mq_tm | refine mq_x ?_ | refine mq_cons (by k_mem) ?_ | exact mq_id)) (by rw [hi]; exact strs_snoc hvs) (by omega) (by omega) (signs_snoc hxs hd) (by rw [List.length_append, List.length_singleton]; omega) (by rw [flat_snoc1]; exact he))
    all_goals first
      | (exfalso; omega)
      | exact hexc _ _ _ (by assumption) (by assumption) (rd_close_bad ha0 ha1 hrd (by assumption) (by assumption) (by assumption))
      | exact hexc _ _ _ (by assumption) (by assumption) (rd_end ha0 ha1 hrd (by assumption))
      | skip
    have hw := sum_len (f := fun x : Str => x) (k := 1) xs fun x hx => Nat.le_of_eq (hxs x hx).1
    rw [List.map_id'] at hw
    have hrc := rd_close ha0 ha1 hrd (by assumption) (by assumption) (by assumption)
    refine join_listW ((‹News g _ _ [(_, _), (_, listO vs k)]› : News _ _ _ _).isList (by k_mem)) hvs (by decide) (Nat.le_trans hw (by omega)) ?_
    intro t' k'
    k_steps
    try dsimp only
    try k_unfold
    try dsimp only
    have hl := len_list x
    have he : (a + 1 : Int) = (x.length : Int) - ((cp x).drop (a.toNat + 1)).length := by
      rw [List.length_drop]
      have : (cp x).length = x.length := hl.symm
      omega
    rw [← flat_join, ← txt_join] at hrc
    have hNN := ‹News g _ _ ((_, tupO [.str (Txt.join (Str.ofString "") xs) _, .int (a + 1) _]) :: _)›
    rw [he] at hNN
    exact hret _ [] [(_, tupO [.str (Txt.join (Str.ofString "") xs) _, .int ((x.length : Int) - ((cp x).drop (a.toNat + 1)).length) _])] _ _ (Fr.keep (by assumption)) (out_news hNN (by (repeat' first | exact List.forall_mem_nil _ | refine sub_cons (by k_mem) ?_ | (intro q hq; k_mem)))) (fun _ _ _ h => nomatch h) ⟨rfl, _, _, _, _, _, hrc, rfl, rfl⟩
end
section
open PySem.Builtin PySem.Builtin.Str
def wordD (p : Str × Bool) : List PyData := [.str p.1, .bool p.2]
def wordC (p : Str × Bool) : List Nat × Bool := (cp p.1, p.2)
theorem readL_suffix : ∀ (n : Nat) (l : List Nat), l.length ≤ n → ∀ w r, readL l = some (w, r) → ∃ p, l = p ++ r := by
  intro n
  induction n with
  | zero => intro l hl w r h; cases l with | nil => cases h | cons _ _ => simp at hl
  | succ n ih =>
    intro l hl w r h
    cases l with
    | nil => cases h
    | cons c t =>
      rw [readL_cons] at h
      simp only [List.length_cons] at hl
      split at h
      · split at h
        · cases h; exact ⟨[c], rfl⟩
        · cases h
      · split at h
        · cases t with
          | nil => cases h
          | cons d t' =>
            simp only [List.length_cons] at hl
            simp only at h
            split at h
            · cases q : readL t' with
              | none => rw [q] at h; cases h
              | some p =>
                rw [q] at h; cases h
                obtain ⟨z, hz⟩ := ih t' (by omega) p.1 p.2 q
                exact ⟨c :: d :: z, by rw [List.cons_append, List.cons_append, ← hz]⟩
            · cases h
        · cases q : readL t with
          | none => rw [q] at h; cases h
          | some p =>
            rw [q] at h; cases h
            obtain ⟨z, hz⟩ := ih t (by omega) p.1 p.2 q
            exact ⟨c :: z, by rw [List.cons_append, ← hz]⟩
theorem one_q (c d : Nat) (y : Str) (h : cp y = [d]) (x : Str) (hx : x = ⟨#[c]⟩) : (x == y) = decide (c = d) := by rw [hx]; exact one_eq c y d h
theorem arith_q {a : Int} {X P R : Nat} (h0 : 0 ≤ a) (h1 : a < X) (h2 : X - (a + 1).toNat = P + R) : min (a + 1).toNat X + P = ((X : Int) - R).toNat ∧ a + 1 < (X : Int) - R + 1 ∧ (R : Int) ≤ X ∧ (a + 1).toNat = a.toNat + 1 := by
  obtain ⟨n, rfl⟩ := Int.eq_ofNat_of_zero_le h0
  have h1 := Int.ofNat_lt.mp h1
  have e : ((n : Int) + 1).toNat = n + 1 := rfl
  rw [e] at h2 ⊢
  have h3 : X = n + 1 + P + R := by omega
  subst h3
  refine ⟨?_, ?_, ?_, rfl⟩
  · rw [Nat.min_eq_left (by omega)]; omega
  · omega
  · omega
section
variable {x : Str} {a : Int} (ha0 : 0 ≤ a) (hlt : a < x.length)
include ha0 hlt
theorem w_blank (h : (Txt.item x a == Str.ofString " ") = true) : wordsL ((cp x).drop a.toNat) = wordsL ((cp x).drop (a + 1).toNat) := by
  obtain ⟨c, hc, hi⟩ := item_at ha0 hlt
  rw [hi, one_eq c _ 32 (by decide), decide_eq_true_eq] at h
  rw [hc, h, wordsL_blank, show (a + 1).toNat = a.toNat + 1 by omega]
theorem w_rem (h : (Txt.item x a == Str.ofString "!") = true) : wordsL ((cp x).drop a.toNat) = some [] := by
  obtain ⟨c, hc, hi⟩ := item_at ha0 hlt
  rw [hi, one_eq c _ 33 (by decide), decide_eq_true_eq] at h
  rw [hc, h, wordsL_rem]
theorem w_quote {wd r : List Nat} (h : (Txt.item x a == Str.ofString "\"") = true) (hr : readL ((cp x).drop (a + 1).toNat) = some (wd, r)) :
    wordsL ((cp x).drop a.toNat) = (wordsL r).map ((wd, true) :: ·) ∧ r = (cp x).drop ((x.length : Int) - r.length).toNat ∧ (a + 1 : Int) < (x.length : Int) - r.length + 1 ∧ (r.length : Int) ≤ x.length := by
  obtain ⟨c, hc, hi⟩ := item_at ha0 hlt
  rw [hi, one_eq c _ 34 (by decide), decide_eq_true_eq] at h
  obtain ⟨p, hp⟩ := readL_suffix _ _ (Nat.le_refl _) _ _ hr
  have h2 := congrArg List.length hp
  rw [List.length_drop, List.length_append] at h2
  have hl : x.length = (cp x).length := len_list x
  have q := arith_q (P := p.length) (R := r.length) ha0 hlt (by rw [hl]; exact h2)
  refine ⟨?_, ?_, q.2.1, q.2.2.1⟩
  · rw [q.2.2.2] at hr
    rw [hc, h, wordsL_quote hr]
  · have h3 : cp x = ((cp x).take (a + 1).toNat ++ p) ++ r := by rw [List.append_assoc, ← hp, List.take_append_drop]
    have h4 : ((cp x).take (a + 1).toNat ++ p).length = ((x.length : Int) - r.length).toNat := by
      rw [List.length_append, List.length_take, ← hl, q.1]
    rw [← h4]
    have h5 : ((cp x).take (a + 1).toNat ++ p ++ r).drop ((cp x).take (a + 1).toNat ++ p).length = r := List.drop_left
    rw [← h3] at h5
    exact h5.symm
theorem w_quote_none (h : (Txt.item x a == Str.ofString "\"") = true) (hr : readL ((cp x).drop (a + 1).toNat) = none) : wordsL ((cp x).drop a.toNat) = none := by
  obtain ⟨c, hc, hi⟩ := item_at ha0 hlt
  rw [hi, one_eq c _ 34 (by decide), decide_eq_true_eq] at h
  rw [show (a + 1).toNat = a.toNat + 1 by omega] at hr
  rw [hc, h, wordsL_quote_none hr]
end
theorem w_end {x : Str} {a : Int} (h : ¬ a < x.length) : wordsL ((cp x).drop a.toNat) = some [] := by
  rw [List.drop_eq_nil_of_le (by have := len_list x; show x.cps.toList.length ≤ _; omega)]
  rfl
theorem slice_to {x : Str} {a b : Int} (h0 : 0 ≤ a) (h1 : a ≤ b) (h2 : b ≤ x.length) : cp (Txt.slice x (some a) (some b)) = ((cp x).drop a.toNat).take (b - a).toNat := by
  rw [beq_iff_eq.mp (slice_closesL (x := x) (i := a) (j := b) h0 h1 h2)]
/-- a plain word's signs, told from its first one on -/
def PlainTo (x : Str) (a b : Int) : Prop := ∀ c ∈ ((cp x).drop a.toNat).take (b - a).toNat, plainC c = true
/-- where a plain word ends -/
def PlainEnd (x : Str) (b : Int) : Prop := b = x.length ∨ ∃ c, (cp x).drop b.toNat = c :: (cp x).drop (b.toNat + 1) ∧ plainC c = false
theorem plain_step {x : Str} {a b : Int} {c : Nat} (h0 : 0 ≤ a) (h1 : a ≤ b) (hc : (cp x).drop b.toNat = c :: (cp x).drop (b.toNat + 1)) (hp : plainC c = true) (h : PlainTo x a b) : PlainTo x a (b + 1) := by
  unfold PlainTo at h ⊢
  intro d hd
  rw [show (b + 1 - a).toNat = (b - a).toNat + 1 by omega, List.take_add_one, List.getElem?_drop, show a.toNat + (b - a).toNat = b.toNat by omega] at hd
  have : (cp x)[b.toNat]? = some c := by
    have := congrArg (fun l : List Nat => l[0]?) hc
    simpa [List.getElem?_drop] using this
  rw [this] at hd
  rcases List.mem_append.mp hd with hd | hd
  · exact h d hd
  · rw [List.mem_singleton.mp hd]; exact hp
section
variable {x : Str} {a b : Int} (ha0 : 0 ≤ a) (hlt : a < x.length) (hab : a ≤ b) (hb : b ≤ x.length) (h1 : (Txt.item x a == Str.ofString " ") = false) (h2 : (Txt.item x a == Str.ofString "!") = false) (h3 : (Txt.item x a == Str.ofString "\"") = false) (hp : PlainTo x a b) (he : PlainEnd x b)
include ha0 hlt hab hb h1 h2 h3 hp he
theorem w_word : a < b ∧ ∃ c w, c ≠ 33 ∧ ((cp x).drop a.toNat).take (b - a).toNat = c :: w ∧ (cp x).drop a.toNat = c :: w ++ (cp x).drop b.toNat := by
  obtain ⟨c, hc, hi⟩ := item_at ha0 hlt
  rw [hi, one_eq c _ 32 (by decide), decide_eq_false_iff_not] at h1
  rw [hi, one_eq c _ 33 (by decide), decide_eq_false_iff_not] at h2
  rw [hi, one_eq c _ 34 (by decide), decide_eq_false_iff_not] at h3
  have hpc : plainC c = true := by simp [plainC, h1, h3]
  have hlt' : a < b := by
    rcases Int.lt_or_eq_of_le hab with h | h
    · exact h
    · subst h
      rcases he with h | ⟨d, hd, hn⟩
      · omega
      · rw [hc] at hd
        rw [(List.cons.inj hd).1, hn] at hpc
        cases hpc
  refine ⟨hlt', c, ((cp x).drop (a.toNat + 1)).take ((b - a).toNat - 1), h2, ?_, ?_⟩
  · rw [hc, show (b - a).toNat = (b - a).toNat - 1 + 1 by omega]
    rfl
  · have e : (cp x).drop b.toNat = ((cp x).drop a.toNat).drop (b - a).toNat := by rw [List.drop_drop, show a.toNat + (b - a).toNat = b.toNat by omega]
    have e2 : c :: ((cp x).drop (a.toNat + 1)).take ((b - a).toNat - 1) = ((cp x).drop a.toNat).take (b - a).toNat := by
      rw [hc, show (b - a).toNat = (b - a).toNat - 1 + 1 by omega]
      rfl
    rw [e, e2, List.take_append_drop]
theorem w_plain (hs : (Txt.slice x (some b) (some (b + 1)) == Str.ofString "\"") = false) :
    a < b ∧ wordsL ((cp x).drop a.toNat) = (wordsL ((cp x).drop b.toNat)).map ((cp (Txt.slice x (some a) (some b)), false) :: ·) := by
  obtain ⟨hlt', c, w, hc, e1, e2⟩ := w_word ha0 hlt hab hb h1 h2 h3 hp he
  refine ⟨hlt', ?_⟩
  rw [slice_to ha0 hab hb, e1]
  have hp' : ∀ d ∈ c :: w, plainC d = true := by rw [← e1]; exact hp
  rw [e2]
  refine wordsL_plain hp' hc ?_
  rcases he with h | ⟨d, hd, hn⟩
  · exact .inl (List.drop_eq_nil_of_le (by have := len_list x; show x.cps.toList.length ≤ _; omega))
  · refine .inr ⟨(cp x).drop (b.toNat + 1), ?_⟩
    have hne : d ≠ 34 := by
      rintro rfl
      have hcp := slice_one (x := x) (i := b) (j := b + 1) (by omega) hb rfl
      rw [hd, List.take_succ_cons, List.take_zero] at hcp
      rw [cp_inj (x := Txt.slice x (some b) (some (b + 1))) (y := Str.ofString "\"") (by rw [hcp]; decide)] at hs
      exact absurd hs (by decide)
    have : d = 32 := by
      simp only [plainC, Bool.and_eq_false_iff, bne_eq_false_iff_eq] at hn
      omega
    rw [hd, this]
theorem w_plain_none (hs : (Txt.slice x (some b) (some (b + 1)) == Str.ofString "\"") = true) :
    wordsL ((cp x).drop a.toNat) = none := by
  obtain ⟨hlt', c, w, hc, e1, e2⟩ := w_word ha0 hlt hab hb h1 h2 h3 hp he
  have hp' : ∀ d ∈ c :: w, plainC d = true := by rw [← e1]; exact hp
  have hcp := slice_one (x := x) (i := b) (j := b + 1) (by omega) hb rfl
  rw [beq_iff_eq.mp hs, show cp (Str.ofString "\"") = [34] by decide] at hcp
  have : ∃ t, (cp x).drop b.toNat = 34 :: t := by
    cases q : (cp x).drop b.toNat with
    | nil => rw [q] at hcp; cases hcp
    | cons d t => rw [q, List.take_succ_cons, List.take_zero] at hcp; exact ⟨t, by rw [(List.cons.inj hcp).1]⟩
  obtain ⟨t, ht⟩ := this
  rw [e2, ht]
  exact wordsL_plain_none hp' hc
end
theorem in_two (x : Str) (b : Int) (h0 : 0 ≤ b) (h1 : b < x.length) : ∃ c, (cp x).drop b.toNat = c :: (cp x).drop (b.toNat + 1) ∧ (occurrences (Str.ofString " \"") (Txt.item x b) 0 (Str.ofString " \"").length 1).isEmpty = plainC c := by
  obtain ⟨c, hc, hi⟩ := item_at h0 h1
  refine ⟨c, hc, ?_⟩
  rw [hi]
  have h := StrLaws.found_one (Str.ofString " \"") c
  have e : (Str.ofString " \"").cps.toList = [32, 34] := by decide
  rw [e] at h
  have k : decide (c ∈ [32, 34]) = !plainC c := by
    rw [Bool.eq_iff_iff]
    simp [plainC]
  rw [k] at h
  rw [← Bool.not_inj h]
theorem due_snoc {L : Option (List (List Nat × Bool))} {due : List (Str × Bool)} {p : Str × Bool} {o r : Option (List (List Nat × Bool))} (h : L = o.map (due.map wordC ++ ·)) (h2 : o = r.map (wordC p :: ·)) : L = r.map ((due ++ [p]).map wordC ++ ·) := by
  rw [h, h2]
  cases r with
  | none => rfl
  | some l => simp
theorem due_end {L : Option (List (List Nat × Bool))} {due : List (Str × Bool)} {o : Option (List (List Nat × Bool))} (h : L = o.map (due.map wordC ++ ·)) (h2 : o = some []) : L = some (due.map wordC) := by
  rw [h, h2]; simp
theorem due_none {L : Option (List (List Nat × Bool))} {due : List (Str × Bool)} {o : Option (List (List Nat × Bool))} (h : L = o.map (due.map wordC ++ ·)) (h2 : o = none) : L = none := by
  rw [h, h2]; rfl
end
theorem fresh_E3 : True := by (w_top off); trivial
theorem offN {new led : Led} (h : ∀ p ∈ new, ∀ q ∈ led, q.1 ≠ p.1) : ∀ p ∈ new, ∀ q ∈ led, @Ne Nat q.1 p.1 := h
theorem off1 {l : Addr} {o : Obj} {led : Led} (h : ∀ p ∈ [(l, o)], ∀ q ∈ led, q.1 ≠ p.1) : ∀ q ∈ led, @Ne Nat q.1 l := h _ (.head _)
theorem off_cons {q : Addr × Obj} {led : Led} {l : Addr} (h : ∀ p ∈ q :: led, @Ne Nat p.1 l) : @Ne Nat q.1 l ∧ ∀ p ∈ led, @Ne Nat p.1 l := ⟨h _ (.head _), fun p hp => h p (.tail _ hp)⟩
/-- the outer loop of words_of -/
def InvW (x : Str) (D : Addr) (m₀ : Str → Option Value) (n : Nat) (m : Str → Option Value) (nw : Led) : Prop :=
  ∃ (a : Int) (t : Tok), ∃ u refs k tl, ∃ due : List (Str × Bool), m = (fun y => if y = Str.ofString "at" then some (.int a t) else tm [Str.ofString "sign", Str.ofString "word", Str.ofString "begin"] u m₀ y) ∧ nw = (D, listO refs k) :: tl ∧ TupsL tl refs (due.map wordD) ∧ (∀ p ∈ tl, @Ne Nat p.1 D) ∧ 0 ≤ a ∧ a ≤ x.length ∧ n = (x.length - a).toNat ∧ refs.length ≤ a.toNat ∧
    wordsL (cp x) = (wordsL ((cp x).drop a.toNat)).map (due.map wordC ++ ·)
@[elab_as_elim] theorem InvW.out {x : Str} {D : Addr} {m₀ : Str → Option Value} {G : Nat → (Str → Option Value) → Led → Prop} (n : Nat) (m : Str → Option Value) (nw : Led) (H : InvW x D m₀ n m nw)
    (h : ∀ (a : Int) (t : Tok) u refs k tl (due : List (Str × Bool)), TupsL tl refs (due.map wordD) → (∀ p ∈ tl, @Ne Nat p.1 D) → 0 ≤ a → a ≤ x.length → refs.length ≤ a.toNat →
      wordsL (cp x) = (wordsL ((cp x).drop a.toNat)).map (due.map wordC ++ ·) →
      let m1 : Str → Option Value := fun y => if y = Str.ofString "at" then some (.int a t) else tm [Str.ofString "sign", Str.ofString "word", Str.ofString "begin"] u m₀ y
      G (x.length - a).toNat m1 ((D, listO refs k) :: tl)) : G n m nw := by
  obtain ⟨a, t, u, refs, k, tl, due, rfl, rfl, hT, htl, h0, h1, rfl, hl, hw⟩ := H
  exact h a t u refs k tl due hT htl h0 h1 hl hw
theorem InvW.mk {x : Str} {D : Addr} {m₀ m u : Str → Option Value} {refs : List Value} {k : Nat} {tl : Led} {t : Tok} (a : Int) (due : List (Str × Bool))
    (hm : m = fun y => if y = Str.ofString "at" then some (.int a t) else tm [Str.ofString "sign", Str.ofString "word", Str.ofString "begin"] u m₀ y) (hT : TupsL tl refs (due.map wordD)) (htl : ∀ p ∈ tl, @Ne Nat p.1 D) (h0 : 0 ≤ a) (h1 : a ≤ x.length) (hl : refs.length ≤ a.toNat)
    (hw : wordsL (cp x) = (wordsL ((cp x).drop a.toNat)).map (due.map wordC ++ ·)) : InvW x D m₀ (x.length - a).toNat m ((D, listO refs k) :: tl) := ⟨a, t, u, refs, k, tl, due, hm, rfl, hT, htl, h0, h1, rfl, hl, hw⟩
theorem InvW.snoc {x : Str} {D l : Addr} {m₀ m u : Str → Option Value} {refs : List Value} {k : Nat} {tl : Led} {t t1 : Tok} {a b : Int} {due : List (Str × Bool)} {wd : Str} {q : Bool}
    (hm : m = fun y => if y = Str.ofString "at" then some (.int b t) else tm [Str.ofString "sign", Str.ofString "word", Str.ofString "begin"] u m₀ y) (hT : TupsL tl refs (due.map wordD)) (htl : ∀ p ∈ (l, tupO [.str wd t1, .bool q]) :: tl, @Ne Nat p.1 D) (h0 : 0 ≤ a) (h1 : b ≤ x.length) (hl : refs.length ≤ a.toNat) (hab : a < b)
    (hw : wordsL (cp x) = (wordsL ((cp x).drop b.toNat)).map ((due ++ [(wd, q)]).map wordC ++ ·)) : InvW x D m₀ (x.length - b).toNat m ((D, listO (refs ++ [.ref l]) (k + 1)) :: (l, tupO [.str wd t1, .bool q]) :: tl) :=
  .mk b (due ++ [(wd, q)]) hm (by rw [List.map_append]; exact (hT.mono fun p hp => .tail _ hp).snoc (.head _) (.cons (.str _ _) (.cons (.bool _) .nil))) htl (by omega) h1 (by rw [List.length_append, List.length_singleton]; omega) hw
theorem self1 {x : Str} {v : Value} {m : Str → Option Value} (h : m x = some v) : m = fun y => if y = x then some v else m y := by
  funext y
  split
  · rename_i e; rw [e, h]
  · rfl
theorem upd1 {x : Str} {v v' : Value} {m : Str → Option Value} : (fun y => if y = x then some v' else if y = x then some v else m y) = fun y => if y = x then some v' else m y := by
  funext y
  split <;> rfl
/-- the inner loop: a plain word -/
def InvI (x : Str) (a : Int) (nw0 : Led) (m₀ : Str → Option Value) (n : Nat) (m : Str → Option Value) (nw : Led) : Prop :=
  ∃ (b : Int) (t : Tok), m = (fun y => if y = Str.ofString "at" then some (.int b t) else m₀ y) ∧ nw = nw0 ∧ a ≤ b ∧ b ≤ x.length ∧ n = (x.length - b).toNat ∧ PlainTo x a b
@[elab_as_elim] theorem InvI.out {x : Str} {a : Int} {nw0 : Led} {m₀ : Str → Option Value} {G : Nat → (Str → Option Value) → Led → Prop} (n : Nat) (m : Str → Option Value) (nw : Led) (H : InvI x a nw0 m₀ n m nw)
    (h : ∀ (b : Int) (t : Tok), a ≤ b → b ≤ x.length → PlainTo x a b → let m1 : Str → Option Value := fun y => if y = Str.ofString "at" then some (.int b t) else m₀ y; G (x.length - b).toNat m1 nw0) : G n m nw := by
  obtain ⟨b, t, rfl, rfl, h0, h1, rfl, hp⟩ := H
  exact h b t h0 h1 hp
theorem InvI.mk {x : Str} {a : Int} {nw0 : Led} {m₀ m : Str → Option Value} {t : Tok} (b : Int) (hm : m = fun y => if y = Str.ofString "at" then some (.int b t) else m₀ y) (h0 : a ≤ b) (h1 : b ≤ x.length) (hp : PlainTo x a b) : InvI x a nw0 m₀ (x.length - b).toNat m nw0 := ⟨b, t, hm, rfl, h0, h1, rfl, hp⟩
section
variable {w : World} {f : Addr} {vs : List Value} {rd led : Led} {Exc : Prop} {d u : Nat} {A₀ A : Around} {base h₀ : Heap} {outer : List Env} {L : Addr} {m : Str → Option Value} {env : Env} {s : Shared} {Q E : Value → Shared → Prop}
  {loose : List Str} {mean : ExcName → Option Value} {mg mb : Str → Option Value}
theorem useQ {P : Str → List Nat → Prop} {r : List Nat → Int} (S : Spec0 w f vs rd (fun v new => ∃ l wd c t1 t2, P wd c ∧ v = .ref l ∧ new = [(l, tupO [.str wd t1, .int (r c) t2])]) Exc d u)
  (ret : ∀ l wd c t1 t2 h' tk', Fr h₀ L h' m → News h₀ L h' ((l, tupO [.str wd t1, .int (r c) t2]) :: led) → P wd c → OffAll led l → Q (.ref l) { s with heap := h', toks := tk' })
  (exc : ∀ e g h' tk', Fr h₀ L g m → RaisedSN base g (env :: outer) e (.ref 52) [] h' → g.UpToSlots h' → Exc → E (.ref e) { s with heap := h', toks := tk' })
  (F : Fr h₀ L s.heap m := by k_asm) (N : News h₀ L s.heap led := by k_asm) (B : Below A₀ base outer h₀ := by k_asm) (X : (KK w).In h₀ := by k_asm) (T : Top topProg loose mean mg mb h₀ := by k_asm)
  (hA : A.frames = some (env :: outer) := by rfl) (hh : A.handled = none := by rfl) (hf : env.frame = some L := by rfl) (hke : env.scope.kind = .function := by rfl)
  (hsub : SubL rd led := by k_subL) (hd : A.depth + d < recursionLimit := by k_room) (hu : A.units + u < cLine := by k_room) : wpAny (model PR w) A (call (.ref f) vs) Q E s :=
  spec_use0 S B F X N T hA hh hf hke hsub hd hu (fun _ _ h' tk' F' N' hn ⟨l, wd, c, t1, t2, p, e1, e2⟩ => by subst e1 e2; exact ret l wd c t1 t2 h' tk' F' N' p (hn _ (.head _))) (fun e g h' tk' F' _ r q x => exc e g h' tk' F' r q x)
end
section
variable {w : World} {A₀ A : Around} {base h₀ : Heap} {outer : List Env} {L : Addr} {m : Str → Option Value} {env : Env} {s : Shared} {Q E : Value → Shared → Prop}
  {loose : List Str} {mean : ExcName → Option Value} {mg mb : Str → Option Value} {led : Led} {gl : Obj → Led}
theorem call68 {x : Str} {t t1 t2 : Tok} {at0 row : Int}
  (ret : ∀ l wd c t3 t4 h' tk', Fr h₀ L h' m → News h₀ L h' ((l, tupO [.str wd t3, .int ((x.length : Int) - (c : List Nat).length) t4]) :: led) → readL ((cp x).drop at0.toNat) = some (cp wd, c) → OffAll led l → Q (.ref l) { s with heap := h', toks := tk' })
  (exc : ∀ e g h' tk', Fr h₀ L g m → RaisedSN base g (env :: outer) e (.ref 52) [] h' → g.UpToSlots h' → readL ((cp x).drop at0.toNat) = none → E (.ref e) { s with heap := h', toks := tk' })
  (F : Fr h₀ L s.heap m := by k_asm) (N : News h₀ L s.heap led := by k_asm) (B : Below A₀ base outer h₀ := by k_asm) (X : (KK w).In h₀ := by k_asm) (T : Top topProg loose mean mg mb h₀ := by k_asm)
  (hA : A.frames = some (env :: outer) := by rfl) (hh : A.handled = none := by rfl) (hf : env.frame = some L := by rfl) (hke : env.scope.kind = .function := by rfl) (hsub : SubL [] led := by k_subL) (hd : A.depth + 12 < recursionLimit := by k_room) (hu : A.units + 200 < cLine := by k_room) (hx : x.length ≤ 1000 := by first | assumption | omega) (ha : Asc x := by assumption) (h0 : 0 ≤ at0 := by omega) (h1 : at0 ≤ x.length := by omega) : wpAny (model PR w) A (call (.ref 68) [.str x t, .int at0 t1, .int row t2]) Q E s :=
  useQ (readq_ok w x t t1 t2 at0 row hx ha h0 h1) ret exc F N B X T hA hh hf hke hsub hd hu
end
local macro_rules | `(tactic| walk_at "call ref") => `(tactic| (k_here; k_dflt refine call68 ?_ ?_; all_goals (intros; k_sweep)))
section
local macro_rules | `(tactic| walk_at "exec While Compare cons nil") => `(tactic| refine Stop.mk ?_)
local macro_rules | `(tactic| walk_at "exec While BoolOp cons nil") => `(tactic| refine Stop.mk ?_)
theorem words_ok (w : World) (x : Str) (t t' : Tok) (row : Int) (hx : x.length ≤ 1000) (ha : Asc x) :
    Spec0 w 61 [.str x t, .int row t'] [] (fun v new => ∃ due : List (Str × Bool), ∃ refs k l tl, wordsL (cp x) = some (due.map wordC) ∧ v = .ref l ∧ new = (l, listO refs k) :: tl ∧ TupsL tl refs (due.map wordD) ∧ ∀ p ∈ tl, @Ne Nat p.1 l) (wordsL (cp x) = none) 20 400 := by
  unfold Spec0 SpecG KK PR
  k_fill
  intro loose mean mg mb dp un gd envs base g s R B X T hk hsz hp hd hu hret hexc
  (k_dflt refine code_sep (h := ?_)); k_whole; intro L' h' tk' mp F' N'; (try dsimp only [List.nil_append, List.cons_append] at N'); intro ev Ar Mo; (try dsimp only); (try k_fold)
  k_steps
  refine' while_invM (news := [(?D, listO [] 0)]) (InvW x ?D) ((x.length : Int) - 0).toNat ?F (News.sub ?N ?sub) ?pass ?init ?turn
  case F => k_asm
  case N => k_asm
  case sub => (repeat' first | exact List.forall_mem_nil _ | refine sub_cons (by k_mem) ?_ | (intro q hq; k_mem))
  case pass => passes_own
  case init => exact .mk 0 [] (tm1_self (by with_unfolding_all rfl)) .nil (fun _ h => nomatch h) (by omega) (by omega) (Nat.zero_le _) (by
    show _ = (wordsL (cp x)).map _
    cases wordsL (cp x) <;> rfl)
  case turn =>
    intro n m nw h tk H
    refine InvW.out n m nw H ?_
    clear H
    intro a ta u refs k tl due hT htl ha0 ha1 hrl hwd m1 F N W
    (try ((show wpAny _ _ _ _ _ _); k_fold))
    k_steps
    · refine WEnd.mk (x.length - (a + 1)).toNat ((_, listO refs k) :: tl) (by assumption) (by assumption) (by (repeat' first | exact List.forall_mem_nil _ | refine sub_cons (by k_mem) ?_ | (intro q hq; k_mem))) (by omega) (.mk (a + 1) due (by (refine tm1 (by rfl) ?_; repeat' first | with_reducible exact mq_id | exact mq_tm | refine mq_x ?_ | refine mq_cons (by k_mem) ?_ | exact mq_id)) hT htl (by omega) (by omega) (by omega) (by rw [← w_blank ha0 (by assumption) (by assumption)]; exact hwd))
    · try dsimp only
      try k_unfold
      try dsimp only
      exact hret _ [] ((_, listO refs k) :: tl) _ _ (Fr.keep (by assumption)) (out_news (by assumption) (by simp only [List.nil_append, List.append_nil]; (repeat' first | exact List.forall_mem_nil _ | refine sub_cons (by k_mem) ?_ | (intro q hq; k_mem)))) (fun _ _ _ h => nomatch h) ⟨rfl, due, refs, k, _, tl, due_end hwd (w_rem ha0 (by assumption) (by assumption)), rfl, rfl, hT, htl⟩
    · have hq := w_quote ha0 (by assumption) (by assumption) (by assumption)
      refine WEnd.mk _ ((_, listO (refs ++ [.ref _]) (k + 1)) :: (_, tupO [.str _ _, .bool true]) :: tl) (by assumption) (by assumption) (by (repeat' first | exact List.forall_mem_nil _ | refine sub_cons (by k_mem) ?_ | (intro q hq; k_mem))) ?lt (.snoc (by (refine tm1 (by rfl) ?_; repeat' first | with_reducible exact mq_id | exact mq_tm | refine mq_x ?_ | refine mq_cons (by k_mem) ?_ | exact mq_id)) hT (by (repeat' first | exact List.forall_mem_nil _ | assumption | refine ne_cons (by k_ne) ?_)) ha0 (by omega) hrl (by omega) (due_snoc hwd (by rw [hq.1]; exact congrArg (fun z => (wordsL z).map _) hq.2.1)))
      omega
    · exact hexc _ _ _ (by assumption) (by assumption) (due_none hwd (w_quote_none ha0 (by assumption) (by assumption) (by assumption)))
    · refine' while_invM (news := ((?D2, listO refs k) :: tl)) (InvI x a ((?D2, listO refs k) :: tl)) ((x.length : Int) - a).toNat ?F (News.sub ?N ?sub) ?pass ?init ?turn2
      case F => k_asm
      case N => k_asm
      case sub => (repeat' first | exact List.forall_mem_nil _ | refine sub_cons (by k_mem) ?_ | (intro q hq; k_mem))
      case pass => passes_own
      case init => exact .mk a (self1 (by with_unfolding_all rfl)) (by omega) ha1 (by
        unfold PlainTo
        rw [show (a - a).toNat = 0 by omega]
        exact fun _ h => nomatch h)
      case turn2 =>
        intro n m nw h tk H
        refine InvI.out n m nw H ?_
        clear H
        intro b tb hab hb1 hpl m2 F N W2
        (try ((show wpAny _ _ _ _ _ _); k_fold))
        k_steps
        · obtain ⟨c, hc, hin⟩ := in_two x b (by omega) (by assumption)
          refine WEnd.mk (x.length - (b + 1)).toNat ((_, listO refs k) :: tl) (by assumption) (by assumption) (by (repeat' first | exact List.forall_mem_nil _ | refine sub_cons (by k_mem) ?_ | (intro q hq; k_mem))) (by omega) (.mk (b + 1) upd1 (by omega) (by omega) (plain_step ha0 hab hc (by rw [← hin]; assumption) hpl))
        · obtain ⟨c, hc, hin⟩ := in_two x b (by omega) (by assumption)
          have he : PlainEnd x b := .inr ⟨c, hc, by rw [← hin]; assumption⟩
          exact hexc _ _ _ (by assumption) (by assumption) (due_none hwd (w_plain_none ha0 (by assumption) hab hb1 (by assumption) (by assumption) (by assumption) hpl he (by assumption)))
        · obtain ⟨c, hc, hin⟩ := in_two x b (by omega) (by assumption)
          have he : PlainEnd x b := .inr ⟨c, hc, by rw [← hin]; assumption⟩
          have hq := w_plain ha0 (by assumption) hab hb1 (by assumption) (by assumption) (by assumption) hpl he (by assumption)
          exact WEnd.mk (x.length - b).toNat ((_, listO (refs ++ [.ref _]) (k + 1)) :: (_, tupO [.str (Txt.slice x (some a) (some b)) _, .bool false]) :: tl) (by assumption) (by assumption) (by (repeat' first | exact List.forall_mem_nil _ | refine sub_cons (by k_mem) ?_ | (intro q hq; k_mem))) (by omega) (.snoc (by (refine tm1 (by rfl) ?_; repeat' first | with_reducible exact mq_id | exact mq_tm | refine mq_x ?_ | refine mq_cons (by k_mem) ?_ | exact mq_id)) hT (by (repeat' first | exact List.forall_mem_nil _ | assumption | refine ne_cons (by k_ne) ?_)) ha0 hb1 hrl hq.1 (due_snoc hwd hq.2))
        · have he : PlainEnd x b := .inl (by omega)
          exact hexc _ _ _ (by assumption) (by assumption) (due_none hwd (w_plain_none ha0 (by assumption) hab hb1 (by assumption) (by assumption) (by assumption) hpl he (by assumption)))
        · have he : PlainEnd x b := .inl (by omega)
          have hq := w_plain ha0 (by assumption) hab hb1 (by assumption) (by assumption) (by assumption) hpl he (by assumption)
          exact WEnd.mk (x.length - b).toNat ((_, listO (refs ++ [.ref _]) (k + 1)) :: (_, tupO [.str (Txt.slice x (some a) (some b)) _, .bool false]) :: tl) (by assumption) (by assumption) (by (repeat' first | exact List.forall_mem_nil _ | refine sub_cons (by k_mem) ?_ | (intro q hq; k_mem))) (by omega) (.snoc (by (refine tm1 (by rfl) ?_; repeat' first | with_reducible exact mq_id | exact mq_tm | refine mq_x ?_ | refine mq_cons (by k_mem) ?_ | exact mq_id)) hT (by (repeat' first | exact List.forall_mem_nil _ | assumption | refine ne_cons (by k_ne) ?_)) ha0 hb1 hrl hq.1 (due_snoc hwd hq.2))
    · try dsimp only
      try k_unfold
      try dsimp only
      exact hret _ [] ((_, listO refs k) :: tl) _ _ (Fr.keep (by assumption)) (out_news (by assumption) (by simp only [List.nil_append, List.append_nil]; (repeat' first | exact List.forall_mem_nil _ | refine sub_cons (by k_mem) ?_ | (intro q hq; k_mem)))) (fun _ _ _ h => nomatch h) ⟨rfl, due, refs, k, _, tl, due_end hwd (w_end (by assumption)), rfl, rfl, hT, htl⟩
end
abbrev frs (l : List Env) : List Addr := l.filterMap (·.frame)
theorem hideAll_size_le (h : Heap) (l : List Addr) : (hideAll h l).objs.size = h.objs.size := hideAll_size _ _

/-- an exception's heap keeps the ledger -/
theorem relist {base g h : Heap} {l : List Env} {e : Addr} {cls : Value} {led : Led} (R : RaisedSN base g l e cls [] h) (hl : ∀ q ∈ led, g.get? q.1 = some q.2 ∧ q.1 ∉ frs l ∧ base.get? q.1 = none) :
    RaisedSN base (hideAll g (led.map fun x : Addr × Obj => x.1)) l e cls led h := by
  obtain ⟨B, a0, h1, h2, -, h4⟩ := R
  refine ⟨B, a0, h1, fun b o q nm => h2 b o (of_hideAll _ q) nm, fun q hq => ⟨h2 _ _ (hl q hq).1 (hl q hq).2.1, hideAll_none _ (List.mem_map_of_mem hq), (hl q hq).2.2⟩, h4⟩
theorem below_base {A : Around} {base h₀ : Heap} {outer : List Env} (B : Below A base outer h₀) {b : Addr} (e : h₀.get? b = none) : base.get? b = none := by
  cases q : base.get? b with
  | none => rfl
  | some o => have := B.stays b o q; rw [e] at this; cases this
theorem below_frame {A : Around} {base h₀ : Heap} {outer : List Env} (B : Below A base outer h₀) {b : Addr} (e : h₀.get? b = none) : b ∉ frs outer := fun hm => by
  obtain ⟨_, o, ho, _⟩ := B.frames.mem hm
  rw [e] at ho; cases ho

section
variable {w : World} {f : Addr} {vs : List Value} {rd led : Led} {Exc : Prop} {d u : Nat} {A₀ A : Around} {base h₀ : Heap} {outer : List Env} {L : Addr} {m : Str → Option Value} {env : Env} {s : Shared} {Q E : Value → Shared → Prop}
  {loose : List Str} {mean : ExcName → Option Value} {mg mb : Str → Option Value}
/-- a call that turns nothing and reads nothing; its exception keeps the ledger -/
theorem spec_useX {Ret : Value → Led → Prop} (S : Spec0 w f vs [] Ret Exc d u)
    (B : Below A₀ base outer h₀) (F : Fr h₀ L s.heap m) (X : (KK w).In h₀) (N : News h₀ L s.heap led) (T : Top topProg loose mean mg mb h₀)
    (hA : A.frames = some (env :: outer)) (hh : A.handled = none) (hf : env.frame = some L) (hke : env.scope.kind = .function)
    (hd : A.depth + d < recursionLimit) (hu : A.units + u < cLine)
    (ret : ∀ v new h' tk', Fr h₀ L h' m → News h₀ L h' (new ++ led) → (∀ p ∈ new, ∀ q ∈ led, q.1 ≠ p.1) → Ret v new → Q v { s with heap := h', toks := tk' })
    (exc : ∀ e g h' tk', Fr h₀ L g m → RaisedSN base g (env :: outer) e (.ref 52) led h' → g.UpToSlots h' → Exc → E (.ref e) { s with heap := h', toks := tk' }) :
    wpAny (model PR w) A (call (.ref f) vs) Q E s := by
  refine spec_use0 S B F X N T hA hh hf hke (by k_subL) hd hu ret ?_
  intro e g h' tk' FG hl R U hE
  have hl' : ∀ q ∈ led, g.get? q.1 = some q.2 := fun q hq => hl q hq fun _ h => nomatch h
  have hnf : ∀ q ∈ led, q.1 ∉ frs (env :: outer) := fun q hq hm => by
    have : q.1 = L ∨ q.1 ∈ frs outer := by
      obtain ⟨env', he, hf'⟩ := List.mem_filterMap.mp hm
      rcases List.mem_cons.mp he with rfl | he
      · rw [hf] at hf'; exact .inl (Option.some.inj hf').symm
      · exact .inr (List.mem_filterMap.mpr ⟨env', he, hf'⟩)
    rcases this with z | z
    · exact (N q hq).2.1 z
    · exact below_frame B (N q hq).2.2 z
  have R' := relist (led := led) R fun q hq => ⟨hl' q hq, hnf q hq, below_base B (N q hq).2.2⟩
  have nL : L ∉ led.map fun x : Addr × Obj => x.1 := fun hm => by
    obtain ⟨q, hq, e⟩ := List.mem_map.mp hm
    exact (N q hq).2.1 e
  have FG' : Fr h₀ L (hideAll g (led.map fun x : Addr × Obj => x.1)) m := by
    obtain ⟨oL, es, ep, h1, h2⟩ := FG.ns
    refine ⟨⟨oL, es, ep, hideAll_get _ h1 nL, h2⟩, fun b o e => hideAll_get _ (FG.keep b o e) fun hm => ?_, FG.above⟩
    obtain ⟨q, hq, e'⟩ := List.mem_map.mp hm
    have := (N q hq).2.2
    rw [e', e] at this; cases this
  exact exc e _ h' tk' FG' R' (fun b o e hd' => U b o (of_hideAll _ e) hd') hE
end

/-- a call that may catch: the frames below may turn in their slots -/
def SpecT (w : World) (f : Addr) (vs : List Value) (pre rd : Led) (Ret : Value → Led → Led → Prop) (d u : Nat) : Prop :=
  ∀ (loose : List Str) (mean : ExcName → Option Value) (mg mb : Str → Option Value) (dp un : Nat) (gd : Option (List Code)) (envs : List Env) (base g : Heap) (s : Shared) (R : Result → Shared → Prop),
    Below (arX dp un gd envs) base envs g → (KK w).In base → Top topProg loose mean mg mb base → KtsDicts (frs envs) g → CodeHd base 183 179 →
    (∀ b o, g.get? b = some o → s.heap.get? b = some o) → Grown g s.heap →
    (∀ p ∈ pre ++ rd, s.heap.get? p.1 = some p.2 ∧ g.get? p.1 = none) →
    Room dp d recursionLimit → Room un u cLine →
    (∀ v upd new h' tk' g', KtsTurn (frs envs) g g' → (∀ b o, g'.get? b = some o → h'.get? b = some o) → (∀ p ∈ upd ++ (new ++ rd), h'.get? p.1 = some p.2 ∧ g'.get? p.1 = none) →
      (∀ p ∈ new, ∀ q ∈ pre ++ rd, q.1 ≠ p.1) → Ret v upd new → R (.ok (.ret v)) { s with heap := h', toks := tk' }) →
    codeAny (model PR w) (arX dp un gd envs) (.call (.ref f) ⟨vs, []⟩) R s

section
variable {w : World} {f : Addr} {vs : List Value} {pre rd led : Led} {Ret : Value → Led → Led → Prop} {d u : Nat} {A₀ A : Around} {base h₀ : Heap} {outer : List Env} {L : Addr} {m : Str → Option Value} {env : Env} {s : Shared} {Q E : Value → Shared → Prop}
  {loose : List Str} {mean : ExcName → Option Value} {mg mb : Str → Option Value}
theorem frs_mem {b : Addr} (hf : env.frame = some L) (hm : b ∈ frs (env :: outer)) : b = L ∨ b ∈ frs outer := by
  obtain ⟨env', he, hf'⟩ := List.mem_filterMap.mp hm
  rcases List.mem_cons.mp he with rfl | he
  · rw [hf] at hf'; exact .inl (Option.some.inj hf').symm
  · exact .inr (List.mem_filterMap.mpr ⟨env', he, hf'⟩)
theorem spec_useT (S : SpecT w f vs pre rd Ret d u)
    (B : Below A₀ base outer h₀) (F : Fr h₀ L s.heap m) (XB : (KK w).In base) (N : News h₀ L s.heap led) (TB : Top topProg loose mean mg mb base) (D : KtsDicts (frs outer) h₀) (C : CodeHd base 183 179)
    (hA : A.frames = some (env :: outer)) (hh : A.handled = none) (hf : env.frame = some L) (hke : env.scope.kind = .function)
    (hsub : ∀ p ∈ pre ++ rd, p ∈ led) (hd : A.depth + d < recursionLimit) (hu : A.units + u < cLine)
    (ret : ∀ v upd new h' tk' g', KtsTurn (frs outer) h₀ g' → Fr g' L h' m → News g' L h' (upd ++ new) → (∀ q ∈ led, (∀ p ∈ pre, q.1 ≠ p.1) → h'.get? q.1 = some q.2 ∧ q.1 ≠ L ∧ g'.get? q.1 = none) → (∀ p ∈ new, ∀ q ∈ led, q.1 ≠ p.1) →
      Below A₀ base outer g' → KtsDicts (frs outer) g' → Ret v upd new → Q v { s with heap := h', toks := tk' }) :
    wpAny (model PR w) A (call (.ref f) vs) Q E s := by
  have N1 : News h₀ L s.heap (pre ++ rd) := fun p hp => N p (hsub p hp)
  obtain ⟨FG, BG, st, -⟩ := groundX (R := fun _ _ => True) B F N1 hA hf hke
  obtain ⟨hd', dp, fr, gd, un⟩ := A
  dsimp only at hA hh hd hu
  subst hA hh
  generalize hG : hideAll s.heap ((pre ++ rd).map fun x : Addr × Obj => x.1) = G at *
  have inG : ∀ q ∈ led, (∀ p ∈ pre ++ rd, q.1 ≠ p.1) → G.get? q.1 = some q.2 := fun q hq hn => by
    rw [← hG]
    refine hideAll_get _ (N q hq).1 fun hm => ?_
    obtain ⟨p, hp, e⟩ := List.mem_map.mp hm
    exact hn p hp e.symm
  have outG : ∀ p ∈ pre ++ rd, s.heap.get? p.1 = some p.2 ∧ G.get? p.1 = none := fun p hp => by
    rw [← hG]
    exact ⟨(N1 p hp).1, hideAll_none _ (List.mem_map_of_mem hp)⟩
  have nL : h₀.get? L = none := kts_self F
  obtain ⟨oL, es, ep, hL, hLd, hLk⟩ := FG.ns
  have DG : KtsDicts (frs (env :: outer)) G := fun b hb => by
    rcases frs_mem hf hb with rfl | z
    · exact ⟨oL, es, ep, hL, hLd⟩
    · obtain ⟨o, es', n', h1, h2⟩ := D b z
      exact ⟨o, es', n', st _ _ h1, h2⟩
  refine wpAny_call ?_
  refine S loose mean mg mb dp un gd (env :: outer) base G s _ BG XB TB DG C (fun b o e => by rw [← hG] at e; exact of_hideAll _ e) (by rw [← hG]; exact Nat.le_of_eq (hideAll_size _ _)) outG hd hu ?_
  intro v upd new h' tk' G' TG hk hp hnew hR
  obtain ⟨T', S'⟩ := kts_turn_at (h := G') (fs := frs outer) (g := h₀)
    (fun b hb => by obtain ⟨_, o, ho, _⟩ := B.frames.mem hb; exact ⟨o, ho⟩)
    (fun b o e nm => TG.other b o (st b o e) fun hm => by
      rcases frs_mem hf hm with z | z
      · rw [z, nL] at e; cases e
      · exact nm z)
    (fun b o e _ => TG.up (st b o e))
  obtain ⟨sl, hsL⟩ := TG.up hL
  have off : ∀ b, G'.get? b = none → b ≠ L ∧ h₀.get? b = none := fun b x2 => by
    refine ⟨fun e => ?_, ?_⟩
    · rw [e, hsL] at x2; cases x2
    · cases q : h₀.get? b with
      | none => rfl
      | some o => obtain ⟨sl', z⟩ := TG.up (st _ _ q); rw [z] at x2; cases x2
  have key : ∀ p ∈ upd ++ (new ++ rd), h'.get? p.1 = some p.2 ∧ p.1 ≠ L ∧ (ktsHeap G' (frs outer) h₀).get? p.1 = none := fun p hp1 => ⟨(hp p hp1).1, (off _ (hp p hp1).2).1, T'.none_ _ (off _ (hp p hp1).2).2⟩
  have nfr : ∀ q ∈ led, q.1 ∉ frs (env :: outer) := fun q hq hm => by
    rcases frs_mem hf hm with z | z
    · exact (N q hq).2.1 z
    · exact below_frame B (N q hq).2.2 z
  have B' : Below A₀ base outer (ktsHeap G' (frs outer) h₀) := ⟨B.stack, fun b o e => T'.other b o (B.stays b o e) (fun hm => by rw [(B.frames.mem hm).1] at e; cases e), B.frames.of_keeps fun b o e _ => by
    obtain ⟨sl, hs⟩ := T'.up e
    exact ⟨_, hs, rfl⟩⟩
  refine ret v upd new h' tk' _ T' ⟨⟨_, es, ep, hk _ _ hsL, hLd, hLk⟩, fun b o e => hk b o (S' b o e), by rw [T'.size]; exact F.above⟩ (fun p hp' => ?_) (fun q hq hn => ?_) (fun p hp' q hq e => ?_) B' (D.turn T') hR
  · rcases List.mem_append.mp hp' with h1 | h1
    · exact key p (List.mem_append_left _ h1)
    · exact key p (List.mem_append_right _ (List.mem_append_left _ h1))
  · refine ⟨?_, (N q hq).2.1, T'.none_ _ (N q hq).2.2⟩
    by_cases hx : ∃ p ∈ rd, q.1 = p.1
    · obtain ⟨p, hpr, e⟩ := hx
      have h1 := (N p (hsub p (List.mem_append_right _ hpr))).1
      have h2 := (N q hq).1
      rw [e, h1] at h2
      rw [e, (key p (List.mem_append_right _ (List.mem_append_right _ hpr))).1]
      exact h2
    · exact hk _ _ (TG.other _ _ (inG q hq fun p hp' e => by
        rcases List.mem_append.mp hp' with h1 | h1
        · exact hn p h1 e
        · exact hx ⟨p, h1, e⟩) (nfr q hq))
  · by_cases hx : ∃ p ∈ pre ++ rd, q.1 = p.1
    · obtain ⟨p', hp'', e'⟩ := hx
      exact hnew p hp' p' hp'' (e'.symm.trans e)
    · have x2 := (hp p (List.mem_append_right _ (List.mem_append_left _ hp'))).2
      rw [← e, TG.other _ _ (inG q hq fun p' hp'' e' => hx ⟨p', hp'', e'⟩) (nfr q hq)] at x2; cases x2
/-- the same where no frame lies below -/
theorem turn_nil {g g' : Heap} (T : KtsTurn [] g g') {b : Addr} {o : Obj} (e : g.get? b = some o) : g'.get? b = some o := T.other b o e (fun h => nomatch h)
theorem spec_useT0 (S : SpecT w f vs pre rd Ret d u)
    (B : Below A₀ base [] h₀) (F : Fr h₀ L s.heap m) (XB : (KK w).In base) (N : News h₀ L s.heap led) (TB : Top topProg loose mean mg mb base) (C : CodeHd base 183 179)
    (hA : A.frames = some [env]) (hh : A.handled = none) (hf : env.frame = some L) (hke : env.scope.kind = .function)
    (hsub : ∀ p ∈ pre ++ rd, p ∈ led) (hd : A.depth + d < recursionLimit) (hu : A.units + u < cLine)
    (ret : ∀ v upd new h' tk', Fr h₀ L h' m → News h₀ L h' (upd ++ new) → (∀ q ∈ led, (∀ p ∈ pre, q.1 ≠ p.1) → h'.get? q.1 = some q.2 ∧ q.1 ≠ L ∧ h₀.get? q.1 = none) → (∀ p ∈ new, ∀ q ∈ led, q.1 ≠ p.1) →
      Ret v upd new → Q v { s with heap := h', toks := tk' }) :
    wpAny (model PR w) A (call (.ref f) vs) Q E s := by
  refine spec_useT S B F XB N TB (by exact ktsDicts_nil) C hA hh hf hke hsub hd hu ?_
  intro v upd new h' tk' g' T' F' N' hl hne _ _ hR
  have none' : ∀ b, g'.get? b = none → h₀.get? b = none := fun b e => by
    cases q : h₀.get? b with
    | none => rfl
    | some o => rw [turn_nil T' q] at e; cases e
  exact ret v upd new h' tk' ⟨F'.ns, fun b o e => F'.keep b o (turn_nil T' e), by rw [← T'.size]; exact F'.above⟩ (fun p hp => ⟨(N' p hp).1, (N' p hp).2.1, none' _ (N' p hp).2.2⟩) (fun q hq hn => ⟨(hl q hq hn).1, (hl q hq hn).2.1, none' _ (hl q hq hn).2.2⟩) hne hR
end
theorem fresh_E5 : True := by (w_top off); trivial
/-- a call of a closure: what it reads stands on, behind its exception too -/
def SpecX (w : World) (f : Addr) (rd : Led) (Ret : Value → Led → Prop) (Exc : Prop) (d u : Nat) : Prop :=
  ∀ (loose : List Str) (mean : ExcName → Option Value) (mg mb : Str → Option Value) (dp un : Nat) (gd : Option (List Code)) (envs : List Env) (base g : Heap) (s : Shared) (R : Result → Shared → Prop),
    Below (arX dp un gd envs) base envs g → (KK w).In g → Top topProg loose mean mg mb g →
    (∀ b o, g.get? b = some o → s.heap.get? b = some o) → Grown g s.heap →
    (∀ p ∈ rd, s.heap.get? p.1 = some p.2 ∧ g.get? p.1 = none) →
    Room dp d recursionLimit → Room un u cLine →
    (∀ v new h' tk', (∀ b o, g.get? b = some o → h'.get? b = some o) → (∀ p ∈ new ++ rd, h'.get? p.1 = some p.2 ∧ g.get? p.1 = none) →
      (∀ p ∈ new, ∀ q ∈ rd, q.1 ≠ p.1) → Ret v new → R (.ok (.ret v)) { s with heap := h', toks := tk' }) →
    (∀ e h' tk', RaisedSN base g envs e (.ref 52) rd h' → g.UpToSlots h' → Exc → R (.error (.ref e)) { s with heap := h', toks := tk' }) →
    codeAny (model PR w) (arX dp un gd envs) (.call (.ref f) ⟨[], []⟩) R s
section
variable {w : World} {f : Addr} {rd : Led} {Ret : Value → Led → Prop} {Exc : Prop} {d u : Nat} {A₀ A : Around} {base h₀ : Heap} {outer : List Env} {L : Addr} {m : Str → Option Value} {env : Env} {s : Shared} {Q E : Value → Shared → Prop}
  {loose : List Str} {mean : ExcName → Option Value} {mg mb : Str → Option Value}
theorem spec_useSX (S : SpecX w f rd Ret Exc d u)
    (B : Below A₀ base outer h₀) (F : Fr h₀ L s.heap m) (X : (KK w).In h₀) (N : News h₀ L s.heap rd) (T : Top topProg loose mean mg mb h₀)
    (hA : A.frames = some (env :: outer)) (hh : A.handled = none) (hf : env.frame = some L) (hke : env.scope.kind = .function)
    (hd : A.depth + d < recursionLimit) (hu : A.units + u < cLine)
    (ret : ∀ v new h' tk', Fr h₀ L h' m → News h₀ L h' (new ++ rd) → (∀ p ∈ new, ∀ q ∈ rd, q.1 ≠ p.1) → Ret v new → Q v { s with heap := h', toks := tk' })
    (exc : ∀ e g h' tk', Fr h₀ L g m → RaisedSN base g (env :: outer) e (.ref 52) rd h' → g.UpToSlots h' → Exc → E (.ref e) { s with heap := h', toks := tk' }) :
    wpAny (model PR w) A (call (.ref f) []) Q E s := by
  obtain ⟨FG, BG, st, -⟩ := groundX (R := fun _ _ => True) B F N hA hf hke
  obtain ⟨hd', dp, fr, gd, un⟩ := A
  dsimp only at hA hh hd hu
  subst hA hh
  generalize hG : hideAll s.heap (rd.map fun x : Addr × Obj => x.1) = G at *
  have outG : ∀ p ∈ rd, s.heap.get? p.1 = some p.2 ∧ G.get? p.1 = none := fun p hp => by
    rw [← hG]
    exact ⟨(N p hp).1, hideAll_none _ (List.mem_map_of_mem hp)⟩
  refine wpAny_call ?_
  refine S loose mean mg mb dp un gd (env :: outer) base G s _ BG (X.keeps st) (T.keeps st) (fun b o e => by rw [← hG] at e; exact of_hideAll _ e) (by rw [← hG]; exact Nat.le_of_eq (hideAll_size _ _)) outG hd hu ?_ ?_
  · intro v new h' tk' hk hp hnew hR
    obtain ⟨oL, es, ep, hL, hLr⟩ := FG.ns
    have off : ∀ b, G.get? b = none → b ≠ L ∧ h₀.get? b = none := fun b x2 => by
      refine ⟨fun e => ?_, ?_⟩
      · rw [e, hL] at x2; cases x2
      · cases q : h₀.get? b with
        | none => rfl
        | some o => rw [st _ _ q] at x2; cases x2
    exact ret v new h' tk' ⟨⟨oL, es, ep, hk _ _ hL, hLr⟩, fun b o e => hk b o (st b o e), F.above⟩ (fun p hp' => ⟨(hp p hp').1, off _ (hp p hp').2⟩) hnew hR
  · intro e h' tk' hR hU hE
    exact exc e G h' tk' FG hR hU hE
end

section
variable {prog : Program} {w : World} {dp un : Nat} {gd : Option (List Code)} {envs : List Env} {g : Heap} {s : Shared} {pre : Led} {R : Result → Shared → Prop}
  {p : Program} {loose : List Str} {mean : ExcName → Option Value} {mg mb : Str → Option Value}
/-- the entry of a lambda of the ledger -/
theorem code_sepL {name qual : Str} {params : Arguments} {body : PySem.Expr} {scope : Scope} {cl : List (Str × Addr)} {pm ctv : Value} {c' f : Addr} {args : Args} {binds : List (Str × Value)}
    (T : Top p loose mean mg mb g) (hk : ∀ b o, g.get? b = some o → s.heap.get? b = some o) (hsz : Grown g s.heap)
    (hp : ∀ p ∈ pre, s.heap.get? p.1 = some p.2 ∧ g.get? p.1 = none)
    (ho : (f, kla_obj name qual params body scope cl pm c' ctv) ∈ pre) (hcd : s.heap.CodeRec (.ref c') qual) (hroom : dp < recursionLimit)
    (hbind : bindArgs (kla_fn name qual params body scope cl pm (.ref c') ctv) args = pure binds) (hloc : ∀ y ∈ binds, scope.names.lookup y.1 = some .local)
    (h : ∀ L' h₁, let mp := fun y => binds.reverse.lookup y
      Fr g L' h₁ mp → News g L' h₁ pre →
      let ev := envX qual scope L' f (.ref c') cl
      let Ar := (arX dp un gd envs).deeper ev
      let Mo := model prog w
      wpAny Mo Ar (eval body ev)
        (fun v s' => R (.ok (.ret v)) s')
        (fun e s' => wpAny Mo Ar (leaving ev e) (fun _ s'' => R (.error e) s'') (fun e' s'' => R (.error e') s'') s')
        { s with heap := h₁, toks := s.toks + binds.length })
    (hco : scope.isCoroutine = false) (hgen : scope.isGenerator = false) (hkd : scope.kind = .function)
    (hcell : ∀ x ∈ scope.names, x.2 ≠ .cell) : codeAny (model prog w) (arX dp un gd envs) (.call (.ref f) args) R s := by
  refine kla_callFunE hroom (hp _ ho).1 rfl hco hgen rfl hcd ?_
  rw [hbind]
  refine wpAny_pure (wpAny_newFunctionEnv hcell hloc (fun h₁ hns hsb => ⟨((T.nolimit).keeps hk).fresh _ hsb, ?_⟩) hkd)
  show codeAny _ _ (.expr body (envX qual scope s.heap.objs.size f (.ref c') cl)) _ _
  have hk₁ : ∀ b o, s.heap.get? b = some o → h₁.get? b = some o := fun b o e => hsb.extBut b o (Nat.ne_of_lt (Heap.lt_size e)) (Heap.get?_push_of_some _ e)
  exact kla_codeExpr (h s.heap.objs.size h₁ ⟨hns, fun b o e => hk₁ b o (hk b o e), hsz⟩ (fun p hp' => ⟨hk₁ _ _ (hp p hp').1, Nat.ne_of_lt (Heap.lt_size (hp p hp').1), (hp p hp').2⟩))
end
section
theorem outcome_ok (w : World) (f : Addr) (rd : Led) {Ret : Value → Led → Prop} {Exc : Prop} {d u : Nat} (S : SpecX w f rd Ret Exc d u) (hfn : ∃ oc od fd sl, (f, (⟨oc, od, .func fd, sl⟩ : Obj)) ∈ rd) :
    SpecT w 146 [.ref f] [] rd (fun v upd new => upd = [] ∧ (Ret v new ∨ (Exc ∧ v = .none ∧ new = []))) (d + 3) (u + 64) := by
  unfold SpecT KK PR
  k_fill
  intro loose mean mg mb dp un gd envs base g s R B XB TB D C hk hsz hp hd hu hret
  have X : (Mine.k.heap_1 w.params).In g := XB.keeps B.stays
  have T := TB.keeps B.stays
  obtain ⟨oc, od, fd, sl, hfn⟩ := hfn
  (k_dflt refine code_sep (h := ?_)); k_whole; intro L' h' tk' mp F' N'; (try dsimp only [List.nil_append, List.cons_append] at N'); intro ev Ar Mo; (try dsimp only); (try k_fold)
  k_steps
  refine spec_useSX S (by assumption) (by assumption) (by assumption) (by assumption) (by assumption) (by exact rfl) (by exact rfl) (by exact rfl) (by exact rfl) (by k_room) (by k_room) ?_ ?_
  · intro v new h' tk' F' N' hne hR
    try dsimp only
    k_unfold
    try dsimp only
    exact hret v [] new _ _ g (by exact KtsTurn.refl) (Fr.keep F') (fun p hp => ⟨(N' p hp).1, (N' p hp).2.2⟩) hne ⟨rfl, .inl hR⟩
  · intro e G h' tk' FG' R' U' hE
    k_steps
    try dsimp only
    k_unfold
    try dsimp only
    rename_i g₂ T₂ F₂ N₂ K₂ X₂ P₂ D₂
    exact hret .none [] [] _ _ g₂ T₂ (Fr.keep F₂) (fun p hp => ⟨(N₂ p hp).1, (N₂ p hp).2.2⟩) (fun _ h => nomatch h) ⟨rfl, .inr ⟨hE, rfl, rfl⟩⟩
end
section
variable {w : World} {f : Addr} {rd : Led} {d u : Nat} {A₀ A : Around} {base h₀ : Heap} {outer : List Env} {L : Addr} {m : Str → Option Value} {env : Env} {s : Shared} {Q E : Value → Shared → Prop}
  {loose : List Str} {mean : ExcName → Option Value} {mg mb : Str → Option Value}
/-- _law_outcome of a closure that raises -/
theorem useO (S : SpecX w f rd (fun _ _ => False) True d u) (hfn : ∃ oc od fd sl, (f, (⟨oc, od, .func fd, sl⟩ : Obj)) ∈ rd)
  (ret : ∀ h' tk' g', KtsTurn (frs outer) h₀ g' → Fr g' L h' m → News g' L h' rd → Below A₀ base outer g' → KtsDicts (frs outer) g' → Q .none { s with heap := h', toks := tk' })
  (F : Fr h₀ L s.heap m := by k_asm) (N : News h₀ L s.heap rd := by k_asm) (B : Below A₀ base outer h₀ := by k_asm) (XB : (KK w).In base := by k_asm) (TB : Top topProg loose mean mg mb base := by k_asm) (D : KtsDicts (frs outer) h₀ := by k_asm) (C : CodeHd base 183 179 := by k_asm)
  (hA : A.frames = some (env :: outer) := by rfl) (hh : A.handled = none := by rfl) (hf : env.frame = some L := by rfl) (hke : env.scope.kind = .function := by rfl)
  (hd : A.depth + (d + 3) < recursionLimit := by k_room) (hu : A.units + (u + 64) < cLine := by k_room) : wpAny (model PR w) A (call (.ref 146) [.ref f]) Q E s := by
  refine spec_useT (outcome_ok w f rd S hfn) B F XB N TB D C hA hh hf hke (fun _ h => h) hd hu ?_
  intro v upd new h' tk' g' KT F' N' hl hne B' D' hR
  rcases hR with ⟨rfl, h | ⟨-, rfl, rfl⟩⟩
  · exact h.elim
  · exact ret h' tk' g' KT F' (fun q hq => hl q hq (fun _ h => nomatch h)) B' D'
theorem useO0 (S : SpecX w f rd (fun _ _ => False) True d u) (hfn : ∃ oc od fd sl, (f, (⟨oc, od, .func fd, sl⟩ : Obj)) ∈ rd)
  (ret : ∀ h' tk', Fr h₀ L h' m → News h₀ L h' rd → Q .none { s with heap := h', toks := tk' })
  (F : Fr h₀ L s.heap m := by k_asm) (N : News h₀ L s.heap rd := by k_asm) (B : Below A₀ base [] h₀ := by k_asm) (XB : (KK w).In base := by k_asm) (TB : Top topProg loose mean mg mb base := by k_asm) (C : CodeHd base 183 179 := by assumption)
  (hA : A.frames = some [env] := by rfl) (hh : A.handled = none := by rfl) (hf : env.frame = some L := by rfl) (hke : env.scope.kind = .function := by rfl)
  (hd : A.depth + (d + 3) < recursionLimit := by k_room) (hu : A.units + (u + 64) < cLine := by k_room) : wpAny (model PR w) A (call (.ref 146) [.ref f]) Q E s := by
  refine spec_useT0 (outcome_ok w f rd S hfn) B F XB N TB C hA hh hf hke (fun _ h => h) hd hu ?_
  intro v upd new h' tk' F' N' hl hne hR
  rcases hR with ⟨rfl, h | ⟨-, rfl, rfl⟩⟩
  · exact h.elim
  · exact ret h' tk' F' (fun q hq => hl q hq (fun _ h => nomatch h))
end
/-- a for loop, as far as it has come: turn by turn, the ground below may turn -/
def ForAt (prog : Program) (w : World) (A : Around) (E : Value → Shared → Prop) (env : Env) (target : PySem.Expr) (body : List Stmt) (Q : Flow → Shared → Prop) (it : Value) (s : Shared) : Prop :=
  codeAny (model prog w) A (.forLoop target it body [] env) (fun r s' => match r with | .ok f => Q f s' | .error e => cameBackBy (model prog w) A env E e s') s
theorem stop_iterF {M : Model} {prog : Program} {w : World} {A A' : Around} {E E' : Value → Shared → Prop} {Q : Flow → Shared → Prop} {s : Shared} {a : Addr} {env : Env} {target : PySem.Expr} {body : List Stmt}
    (h : Stop (wpAny M A (pyIter (.ref a)) (fun it s₂ => ForAt prog w A' E' env target body Q it s₂) E s)) : wpAny M A (pyIter (.ref a)) (fun it s₂ => ForAt prog w A' E' env target body Q it s₂) E s := h
def ForPost (prog : Program) (w : World) (A : Around) (E : Value → Shared → Prop) (env : Env) (target : PySem.Expr) (body : List Stmt) (Q : Flow → Shared → Prop) (it : Value) (f : Flow) (s : Shared) : Prop :=
  match f with
  | .next => ForAt prog w A E env target body Q it s
  | .cont => ForAt prog w A E env target body Q it s
  | .brk => Q .next s
  | .ret v => Q (.ret v) s
section
variable {prog : Program} {w : World} {A : Around} {E : Value → Shared → Prop} {env : Env} {target iter : PySem.Expr} {body : List Stmt} {Q : Flow → Shared → Prop} {s : Shared} {h₀ : Heap} {m : Str → Option Value} {led : Led} {gl : Obj → Led}
theorem for_start {pos : Pos} (hs : ∀ x, foldedSetIterable iter env x = pure x) (h : wpAny (model prog w) A (eval iter env) (fun xv s₁ => wpAny (model prog w) A (pyIter xv) (fun it s₂ => ForAt prog w A E env target body Q it s₂) E s₁) E s) :
    wpAny (model prog w) A (exec (.For target iter body [] pos) env) Q E s := wpAny_For h hs
theorem for_step {it : Value} (hE : PassesOwn (model prog w) A env E) (h : wpAny (model prog w) A (pyNext it) (fun r s₁ => match r with
      | none => Q .next s₁
      | some v => wpAny (model prog w) A (letOwnedTupleGo target it v) (fun _ s₁' =>
          wpAny (model prog w) A (assign target env v) (fun _ s₂ => wpAny (model prog w) A (execs body env) (ForPost prog w A E env target body Q it) E s₂) E s₁') E s₁) E s) : ForAt prog w A E env target body Q it s := by
  unfold ForAt
  refine codeAny_of_tree ?_
  show wpAny _ A ((forTurn target it body [] env).onRaise (fun x => do noteFrame x env; theTreesLotGoes x)) _ _ s
  refine wpAny_noted ?_
  simp only [forTurn]
  refine wpAny_bind (wpAny_standAt (wpAny_bind (wpAny_onRaise (wpAny_mono h (fun r s₁ h₁ => ?_) fun _ _ h' => wpAny_standAt (hE _ _ h')))))
  cases r with
  | none => exact wpAny_pure ⟨rfl, codeAny_block (wpAny_execs_nil h₁)⟩
  | some v =>
    refine wpAny_bind (wpAny_mono h₁ (fun _ s₁' h₁' => ?_) fun _ _ h' => hE _ _ h')
    refine wpAny_bind (wpAny_mono h₁' (fun _ s₂ h₂ => wpAny_bind (wpAny_mono h₂ (fun f s₃ h₃ => ?_) fun _ _ h' => hE _ _ h')) fun _ _ h' => hE _ _ h')
    cases f with
    | next => exact wpAny_pure ⟨rfl, h₃⟩
    | cont => exact wpAny_pure ⟨rfl, h₃⟩
    | brk => exact wpAny_pure h₃
    | ret v => exact wpAny_pure h₃
def ItO (it : Obj) (l : Addr) (i : Nat) : Prop := it.cls = .type "list_iterator" ∧ it.data = .fields #[.ref l, .int i 0]
theorem iter_listN {l : Addr} {vs : List Value} {k : Nat} {L : Addr} {Q : Value → Shared → Prop} (F : Fr h₀ L s.heap m) (N : News h₀ L s.heap led) (hl : (l, listO vs k) ∈ led)
    (h : ∀ I it h', ItO it l 0 → Fr h₀ L h' m → News h₀ L h' ((I, it) :: led) → (∀ q ∈ led, q.1 < I) → Q (.ref I) { s with heap := h' }) : wpAny (model prog w) A (pyIter (.ref l)) Q E s := by
  refine wpAny_pyIter_list (N.isList hl) ?_
  refine h _ { cls := .type "list_iterator", data := .fields #[.ref l, .int 0 0] } _ ⟨rfl, rfl⟩ (F.push _) (fun p hp => ?_) (fun q hq => Heap.lt_size (N q hq).1)
  rcases List.mem_cons.mp hp with rfl | hp
  · exact ⟨Heap.get?_push_size _ rfl, Ne.symm (Nat.ne_of_lt F.ns.lt), next_is_new F⟩
  · exact ⟨Heap.get?_push_of_some _ (N p hp).1, (N p hp).2⟩
theorem forAt_item {I l : Addr} {vs : List Value} {k i : Nat} {it : Obj} {v : Value} (hE : PassesOwn (model prog w) A env E) (F : Fr h₀ env.locals s.heap m) (N : News h₀ env.locals s.heap led) (U : UpdF I it led gl) (hit : ItO it l i) (hl : (l, listO vs k) ∈ led) (hv : vs[i]? = some v)
    (h : ∀ h' it', ItO it' l (i + 1) → Fr h₀ env.locals h' m → News h₀ env.locals h' (gl it') → wpAny (model prog w) A (assign target env v) (fun _ s₂ => wpAny (model prog w) A (execs body env) (ForPost prog w A E env target body Q (.ref I)) E s₂) E { s with heap := h' }) :
    ForAt prog w A E env target body Q (.ref I) s := by
  obtain ⟨own, rest, rfl, hg, h1, h2⟩ := U.split
  have hmem := N (I, it) (List.mem_append_right _ (.head _))
  refine for_step hE (wpAny_pyNext_list_item ⟨it, hmem.1, hit.1, hit.2⟩ (N.isList hl) (x := v) (by simpa using hv) fun h' hit' hs => ?_)
  obtain ⟨it', e1, e2, e3⟩ := hit'
  refine letGo_listiter (i := i + 1) ⟨it', e1, e2, e3⟩ ?_
  refine h h' it' ⟨e2, e3⟩ ⟨F.ns.sameBut hs (Ne.symm hmem.2.1), fun b ob e => (hs.2 b (fun q => ?_)).trans (F.keep b ob e), F.above⟩ (hg it' ▸ N.setAt h1 h2 hs e1)
  rw [q, hmem.2.2] at e; cases e
theorem forAt_end {I l : Addr} {vs : List Value} {k i : Nat} {it : Obj} (led' : Led) (hE : PassesOwn (model prog w) A env E) (hh : A.handled = none) (F : Fr h₀ env.locals s.heap m) (N : News h₀ env.locals s.heap led) (hI : (I, it) ∈ led) (hit : ItO it l i) (hl : (l, listO vs k) ∈ led) (hv : vs[i]? = none)
    (hs' : ∀ p ∈ led', p ∈ led) (hne : ∀ p ∈ led', @Ne Nat p.1 I)
    (h : ∀ h', Fr h₀ env.locals h' m → News h₀ env.locals h' led' → Q .next { s with heap := h' }) :
    ForAt prog w A E env target body Q (.ref I) s := by
  have hmem := N (I, it) hI
  refine for_step hE (wpAny_pyNext_list_end hh ⟨it, hmem.1, hit.1, hit.2⟩ (N.isList hl) (by simpa using hv) fun h' hs => ?_)
  refine h h' ⟨F.ns.extBut hs hmem.2.1.symm, fun b ob e => hs b ob (fun q => ?_) (F.keep b ob e), F.above⟩ (fun p hp => ⟨hs _ _ (hne p hp) (N p (hs' p hp)).1, (N p (hs' p hp)).2⟩)
  rw [q, hmem.2.2] at e; cases e
end
section
variable {prog : Program} {w : World} {A : Around} {E : Value → Shared → Prop} {s : Shared} {a b : Value} {d : PyData} {as bs : List Addr} {Q : Value → Shared → Prop}
theorem eq_same (ra : Reads s.heap a d as) (rb : Reads s.heap b d bs) (hs : SeqAt.shaped d = true) (hm : SeqAt.noMix d d = true) (hu : A.units + 64 < cLine) (h : Q (.bool true) s) : wpAny (model prog w) A (compareOp .Eq a b) Q E s :=
  eq_dataH_same ra rb hs hs hu hm (by rw [same_refl]; exact h)
theorem ne_same (ra : Reads s.heap a d as) (rb : Reads s.heap b d bs) (hs : SeqAt.shaped d = true) (hm : SeqAt.noMix d d = true) (hu : A.units + 64 < cLine) (h : Q (.bool false) s) : wpAny (model prog w) A (compareOp .NotEq a b) Q E s :=
  ne_dataH_same ra rb hs hs hu hm (by rw [same_refl]; exact h)
end
theorem reads_tupN {h₀ h : Heap} {L a : Addr} {led : Led} {vs : List Value} {ds : List PyData} (N : News h₀ L h led) (hm : (a, tupO vs) ∈ led) (hc : CarriedAll vs ds) : Reads h (.ref a) (.tuple ds) [] :=
  reads_tuple_at (N _ hm).1 rfl rfl (hc.reads h)
theorem reads_tupsN {h₀ h : Heap} {L a : Addr} {led tl : Led} {refs : List Value} {k : Nat} {dss : List (List PyData)} (N : News h₀ L h led) (hm : (a, listO refs k) ∈ led) (hT : TupsL tl refs dss) (hs : ∀ p ∈ tl, p ∈ led) : Reads h (.ref a) (.list (dss.map .tuple)) [a] :=
  reads_list_at (N _ hm).1 rfl rfl (hT.reads N hs)
theorem strOk_asc {x : Str} (h : Asc x) : PyData.strOk x = true := by
  unfold PyData.strOk
  rw [← Array.all_toList, List.all_eq_true]
  intro c hc
  have := h c hc
  simp
  omega
theorem shaped_si {x : Str} {n : Int} (h : Asc x) : SeqAt.shaped (.tuple [.str x, .int n]) = true := by
  simp [SeqAt.shaped, PyData.canLay0, PyData.canLayAll0, PyData.depth, PyData.depthAll, strOk_asc h]
theorem shaped_words (due : List (Str × Bool)) (h : ∀ p ∈ due, Asc p.1) : SeqAt.shaped (.list ((due.map wordD).map .tuple)) = true := by
  have h1 : ∀ due : List (Str × Bool), (∀ p ∈ due, Asc p.1) → PyData.canLayAll0 ((due.map wordD).map .tuple) = true := fun due => by
    induction due with
    | nil => intro _; rfl
    | cons c r ih => intro h; simp only [List.map_cons, PyData.canLayAll0, ih fun d hd => h d (.tail _ hd), Bool.and_true]; simp [wordD, PyData.canLay0, PyData.canLayAll0, strOk_asc (h c (.head _))]
  have h2 : ∀ due : List (Str × Bool), PyData.depthAll ((due.map wordD).map .tuple) ≤ 1 := fun due => by
    induction due with
    | nil => exact Nat.zero_le _
    | cons c r ih => simp only [List.map_cons, PyData.depthAll]; exact Nat.max_le.mpr ⟨by simp [wordD, PyData.depth, PyData.depthAll], ih⟩
  have := h2 due
  simp only [SeqAt.shaped, PyData.canLay0, PyData.depth, h1 due h, Bool.true_and]
  exact decide_eq_true (by omega)
theorem words_noMix (due : List (Str × Bool)) : SeqAt.noMix (.list ((due.map wordD).map .tuple)) (.list ((due.map wordD).map .tuple)) = true := by
  have h : (Shape.list (.tuple [.str, .bool])).has (.list ((due.map wordD).map .tuple)) = true := by
    rw [List.map_map]
    exact list_map_has fun p => by simp [wordD, Shape.has, Shape.hasAll]
  exact SeqAt.noMix_of_shape (.list (.tuple [.str, .bool])) rfl _ _ h h
theorem pairs_noMix (ps : List (Int × Int)) : SeqAt.noMix (.list ((ps.map pairD).map .tuple)) (.list ((ps.map pairD).map .tuple)) = true :=
  SeqAt.noMix_of_shape (.list (.tuples .int)) rfl _ _ (pairs_has ps) (pairs_has ps)
theorem si_noMix (x : Str) (n : Int) : SeqAt.noMix (.tuple [.str x, .int n]) (.tuple [.str x, .int n]) = true := by simp [SeqAt.noMix, SeqAt.noMixAll]

theorem Spec0.mono {w : World} {f : Addr} {vs : List Value} {rd : Led} {Ret Ret' : Value → Led → Prop} {Exc Exc' : Prop} {d u : Nat} (S : Spec0 w f vs rd Ret Exc d u) (hr : ∀ v new, Ret v new → Ret' v new) (he : Exc → Exc') : Spec0 w f vs rd Ret' Exc' d u := by
  unfold Spec0 SpecG at S ⊢
  intro loose mean mg mb dp un gd envs base g s R B X T hk hsz hp hd hu hret hexc
  exact S loose mean mg mb dp un gd envs base g s R B X T hk hsz hp hd hu (fun v upd new h' tk' a b c ⟨e, z⟩ => hret v upd new h' tk' a b c ⟨e, hr _ _ z⟩) (fun e h' tk' a b c => hexc e h' tk' a b (he c))

theorem quote_tail (x b : Str) : (cp (quoteS x ++ b)).drop (1 : Int).toNat = esc (cp x) ++ 34 :: cp b := by
  rw [cp_app]
  show List.drop 1 (([34] ++ esc (cp x) ++ [34]).toArray.toList ++ cp b) = _
  simp
theorem esc_asc {x : List Nat} (h : ∀ c ∈ x, c < 128) : ∀ c ∈ esc x, c < 128 := by
  intro c hc
  unfold esc at hc
  obtain ⟨a, ha, hc⟩ := List.mem_flatMap.mp hc
  have := h a ha
  split at hc
  · simp only [List.mem_cons, List.not_mem_nil, or_false] at hc; omega
  · simp only [List.mem_cons, List.not_mem_nil, or_false] at hc; omega
theorem quote_asc {x : Str} (h : Asc x) : Asc (quoteS x) := by
  intro c hc
  have hc : c ∈ [34] ++ esc (cp x) ++ [34] := hc
  simp only [List.cons_append, List.nil_append, List.mem_cons, List.mem_append, List.not_mem_nil, or_false] at hc
  rcases hc with rfl | hc | rfl
  · decide
  · exact esc_asc h c hc
  · decide
theorem app_asc {x y : Str} (hx : Asc x) (hy : Asc y) : Asc (x ++ y) := by
  intro c hc
  have hc : c ∈ cp (x ++ y) := hc
  rw [cp_app] at hc
  rcases List.mem_append.mp hc with hc | hc
  · exact hx c hc
  · exact hy c hc
theorem quote_len {x : Str} (h : x.length ≤ 100) : (quoteS x).length ≤ 202 := by
  rw [len_list] at h ⊢
  show ([34] ++ esc (cp x) ++ [34]).length ≤ 202
  have := esc_len (cp x)
  have h : (cp x).length ≤ 100 := h
  simp only [List.length_append, List.length_cons, List.length_nil]
  omega
/-- told between quotes, what may stand behind: read back -/
theorem readq_tail (w : World) (x b : Str) (t t' t'' : Tok) (row : Int) (hx : x.length ≤ 100) (ha : Asc x) (hb : Asc b) (hbl : b.length ≤ 10) (ho : okAfter (cp b) = true) :
    Spec0 w 68 [.str (quoteS x ++ b) t, .int 1 t', .int row t''] [] (fun v new => ∃ l t1 t2, v = .ref l ∧ new = [(l, tupO [.str x t1, .int (quoteS x).length t2])]) False 12 200 := by
  have hq := quote_len hx
  have hl : (quoteS x ++ b).length = (quoteS x).length + b.length := Str.length_append _ _
  have hr : readL ((cp (quoteS x ++ b)).drop (1 : Int).toNat) = some (cp x, cp b) := by rw [quote_tail, readL_esc, if_pos ho]
  have h1 : (1 : Int) ≤ (quoteS x ++ b).length := by
    have : 1 ≤ (quoteS x).length := by rw [len_list]; show 1 ≤ ([34] ++ esc (cp x) ++ [34]).length; simp
    omega
  refine (readq_ok w (quoteS x ++ b) t t' t'' 1 row (by omega) (app_asc (quote_asc ha) hb) (by decide) h1).mono ?_ ?_
  · rintro v new ⟨l, wd, r, t1, t2, h, e1, e2⟩
    rw [hr] at h
    have h := Option.some.inj h
    have e3 : wd = x := cp_inj (congrArg Prod.fst h).symm
    have e4 : r = cp b := (congrArg Prod.snd h).symm
    refine ⟨l, t1, t2, e1, ?_⟩
    rw [e2, e3, e4]
    have : ((quoteS x ++ b).length : Int) - (cp b).length = (quoteS x).length := by
      have : b.length = (cp b).length := len_list b
      omega
    rw [this]
  · intro h; rw [hr] at h; cases h
/-- told between quotes, what may not stand behind: refused -/
theorem readq_bad (w : World) (x b : Str) (t t' t'' : Tok) (row : Int) (hx : x.length ≤ 100) (ha : Asc x) (hb : Asc b) (hbl : b.length ≤ 10) (ho : okAfter (cp b) = false) :
    Spec0 w 68 [.str (quoteS x ++ b) t, .int 1 t', .int row t''] [] (fun v new => False) True 12 200 := by
  have hq := quote_len hx
  have hl : (quoteS x ++ b).length = (quoteS x).length + b.length := Str.length_append _ _
  have hr : readL ((cp (quoteS x ++ b)).drop (1 : Int).toNat) = none := by rw [quote_tail, readL_esc, if_neg (by rw [ho]; decide)]
  have h1 : (1 : Int) ≤ (quoteS x ++ b).length := by
    have : 1 ≤ (quoteS x).length := by rw [len_list]; show 1 ≤ ([34] ++ esc (cp x) ++ [34]).length; simp
    omega
  refine (readq_ok w (quoteS x ++ b) t t' t'' 1 row (by omega) (app_asc (quote_asc ha) hb) (by decide) h1).mono ?_ (fun _ => trivial)
  rintro v new ⟨l, wd, r, t1, t2, h, e1, e2⟩
  rw [hr] at h; cases h
theorem words_bad (w : World) (x : Str) (t t' : Tok) (row : Int) (hx : x.length ≤ 100) (ha : Asc x) :
    Spec0 w 61 [.str (Str.ofString "up" ++ quoteS x) t, .int row t'] [] (fun v new => False) True 20 400 := by
  have hq := quote_len hx
  have hl : (Str.ofString "up" ++ quoteS x).length = 2 + (quoteS x).length := Str.length_append _ _
  have hr : wordsL (cp (Str.ofString "up" ++ quoteS x)) = none := by
    rw [cp_app]
    have e : cp (Str.ofString "up") = [117, 112] := by decide
    have e2 : cp (quoteS x) = 34 :: (esc (cp x) ++ [34]) := by show ([34] ++ esc (cp x) ++ [34]).toArray.toList = _; simp
    rw [e, e2]
    exact wordsL_plain_none (c := 117) (w := [112]) (by decide) (by decide)
  refine (words_ok w _ t t' row (by omega) (app_asc (by show ∀ c ∈ (Str.ofString "up").cps.toList, c < 128; decide) (quote_asc ha))).mono ?_ (fun _ => trivial)
  rintro v new ⟨due, refs, k, l, tl, h, _⟩
  rw [hr] at h; cases h
/-- what one turn leaves, the ground may have turned -/
def EndG (L : Addr) (s₁ : Shared) (I : Addr) (it : Obj) (lp : Addr × Obj) (r : Heap → (Str → Option Value) → Led → Prop) (s₂ : Shared) : Prop :=
  ∃ g' h' tk m' nw, s₂ = { s₁ with heap := h', toks := tk } ∧ Fr g' L h' m' ∧ News g' L h' ((I, it) :: lp :: nw) ∧ (∀ p ∈ nw, @Ne Nat p.1 I) ∧ r g' m' nw
def PostG (L : Addr) (s₁ : Shared) (I : Addr) (it : Obj) (lp : Addr × Obj) (r : Heap → (Str → Option Value) → Led → Prop) (Q : Flow → Shared → Prop) (f : Flow) (s₂ : Shared) : Prop :=
  match f with
  | .ret v => Q (.ret v) s₂
  | .brk => Q .next s₂
  | _ => EndG L s₁ I it lp r s₂
theorem EndG.mk {L I : Addr} {s₁ : Shared} {it : Obj} {lp : Addr × Obj} {r : Heap → (Str → Option Value) → Led → Prop} {g' h' : Heap} {tk : Nat} {m' : Str → Option Value} {all : Led} (nw : Led) (F : Fr g' L h' m') (N : News g' L h' all) (hI : (I, it) ∈ all) (hl : lp ∈ all) (hs : ∀ p ∈ nw, p ∈ all) (hne : ∀ p ∈ nw, @Ne Nat p.1 I) (hr : r g' m' nw) :
    EndG L s₁ I it lp r { s₁ with heap := h', toks := tk } :=
  ⟨g', h', tk, m', nw, rfl, F, fun p hp => by
    rcases List.mem_cons.mp hp with rfl | hp
    · exact N _ hI
    · rcases List.mem_cons.mp hp with rfl | hp
      · exact N _ hl
      · exact N _ (hs p hp), hne, hr⟩
section
variable {prog : Program} {w : World} {A : Around} {E : Value → Shared → Prop} {env : Env} {target iter : PySem.Expr} {body : List Stmt} {Q : Flow → Shared → Prop} {s : Shared} {h₀ : Heap} {m : Str → Option Value} {led nw : Led}
theorem for_grd {l : Addr} {vs : List Value} {k : Nat} (Inv : Nat → Heap → (Str → Option Value) → Led → Prop) (F : Fr h₀ env.locals s.heap m) (N : News h₀ env.locals s.heap led) (hl : (l, listO vs k) ∈ led) (hs : ∀ p ∈ nw, p ∈ led) (hE : PassesOwn (model prog w) A env E) (hh : A.handled = none)
    (h0 : Inv 0 h₀ m nw)
    (turn : ∀ I i it v g' m' nw' h tk, vs[i]? = some v → Inv i g' m' nw' → @LT.lt Nat _ l I → (∀ p ∈ nw', @Ne Nat p.1 I) → Fr g' env.locals h m' → News g' env.locals h ((I, it) :: (l, listO vs k) :: nw') →
      wpAny (model prog w) A (assign target env v) (fun _ s₂ => wpAny (model prog w) A (execs body env) (PostG env.locals { s with heap := h, toks := tk } I it (l, listO vs k) (Inv (i + 1)) Q) E s₂) E { s with heap := h, toks := tk })
    (fin : ∀ g' m' nw' h tk, Inv vs.length g' m' nw' → Fr g' env.locals h m' → News g' env.locals h nw' → Q .next { s with heap := h, toks := tk }) :
    wpAny (model prog w) A (pyIter (.ref l)) (fun it s₂ => ForAt prog w A E env target body Q it s₂) E s := by
  refine iter_listN F N hl ?_
  intro I it h' hit F' N' hlt
  have lI : @LT.lt Nat _ l I := hlt _ hl
  have key : ∀ n i it g' m' nw' h tk, i + n = vs.length → ItO it l i → Inv i g' m' nw' → (∀ p ∈ nw', @Ne Nat p.1 I) → Fr g' env.locals h m' → News g' env.locals h ((I, it) :: (l, listO vs k) :: nw') → ForAt prog w A E env target body Q (.ref I) { s with heap := h, toks := tk } := by
    intro n
    induction n with
    | zero =>
      intro i it g' m' nw' h tk hi hit hI hne F' N'
      obtain rfl : i = vs.length := by omega
      refine forAt_end nw' hE hh F' N' (.head _) hit (.tail _ (.head _)) (by simp) (fun p hp => .tail _ (.tail _ hp)) hne ?_
      intro h' F'' N''
      exact fin g' m' nw' h' tk hI F'' N''
    | succ n ih =>
      intro i it g' m' nw' h tk hi hit hI hne F' N'
      have hlt : i < vs.length := by omega
      have hoff : ∀ p ∈ (l, listO vs k) :: nw', p.1 ≠ I := fun p hp => by
        rcases List.mem_cons.mp hp with rfl | hp
        · exact Nat.ne_of_lt lI
        · exact hne p hp
      refine forAt_item hE F' N' (.head hoff) hit (.tail _ (.head _)) (v := vs[i]) (by simp [hlt]) ?_
      intro h₁ it₁ hit₁ F₁ N₁
      refine wpAny_mono (turn I i it₁ vs[i] g' m' nw' h₁ tk (by simp [hlt]) hI lI hne F₁ N₁) (fun _ s₂ z => wpAny_mono z (fun f s₃ z => ?_) fun _ _ x => x) fun _ _ x => x
      have go : EndG env.locals { s with heap := h₁, toks := tk } I it₁ (l, listO vs k) (Inv (i + 1)) s₃ → ForAt prog w A E env target body Q (.ref I) s₃ := by
        rintro ⟨g₂, h₂, tk₂, m₂, nw₂, rfl, F₂, N₂, ne₂, r₂⟩
        exact ih (i + 1) it₁ g₂ m₂ nw₂ h₂ tk₂ (by omega) hit₁ r₂ ne₂ F₂ N₂
      cases f with
      | ret v => exact z
      | brk => exact z
      | next => exact go z
      | cont => exact go z
  exact key vs.length 0 it h₀ m nw h' s.toks (by omega) hit h0 (fun p hp => Nat.ne_of_lt (hlt p (hs p hp))) F' (fun p hp => by
    rcases List.mem_cons.mp hp with rfl | hp
    · exact N' _ (.head _)
    · rcases List.mem_cons.mp hp with rfl | hp
      · exact N' _ (.tail _ hl)
      · exact N' _ (.tail _ (hs p hp)))
/-- the invariant speaks of the map at the loop's start -/
theorem for_grdM {l : Addr} {vs : List Value} {k : Nat} (Inv : (Str → Option Value) → Nat → Heap → (Str → Option Value) → Led → Prop) (F : Fr h₀ env.locals s.heap m) (N : News h₀ env.locals s.heap led) (hl : (l, listO vs k) ∈ led) (hs : ∀ p ∈ nw, p ∈ led) (hE : PassesOwn (model prog w) A env E) (hh : A.handled = none)
    (h0 : Inv m 0 h₀ m nw)
    (turn : ∀ I i it v g' m' nw' h tk, vs[i]? = some v → Inv m i g' m' nw' → @LT.lt Nat _ l I → (∀ p ∈ nw', @Ne Nat p.1 I) → Fr g' env.locals h m' → News g' env.locals h ((I, it) :: (l, listO vs k) :: nw') →
      wpAny (model prog w) A (assign target env v) (fun _ s₂ => wpAny (model prog w) A (execs body env) (PostG env.locals { s with heap := h, toks := tk } I it (l, listO vs k) (Inv m (i + 1)) Q) E s₂) E { s with heap := h, toks := tk })
    (fin : ∀ g' m' nw' h tk, Inv m vs.length g' m' nw' → Fr g' env.locals h m' → News g' env.locals h nw' → Q .next { s with heap := h, toks := tk }) :
    wpAny (model prog w) A (pyIter (.ref l)) (fun it s₂ => ForAt prog w A E env target body Q it s₂) E s := for_grd (Inv m) F N hl hs hE hh h0 turn fin
theorem strs_val {vs : List Value} {bs : List Str} (h : StrsAre vs bs) : ∀ v ∈ vs, ∃ b tb, v = .str b tb ∧ b ∈ bs := by
  induction h with
  | nil => exact fun _ h => nomatch h
  | cons y t _ ih =>
    intro v hv
    rcases List.mem_cons.mp hv with rfl | hv
    · exact ⟨y, t, rfl, .head _⟩
    · obtain ⟨b, tb, e, hb⟩ := ih v hv
      exact ⟨b, tb, e, .tail _ hb⟩
/-- over a list of strs; the list and what is due at a turn's end are let-variables in the turn -/
theorem for_strM {l : Addr} {vs : List Value} {k : Nat} (bs : List Str) (Inv : (Str → Option Value) → Nat → Heap → (Str → Option Value) → Led → Prop) (F : Fr h₀ env.locals s.heap m) (N : News h₀ env.locals s.heap led) (hl : (l, listO vs k) ∈ led) (hb : StrsAre vs bs) (hs : ∀ p ∈ nw, p ∈ led) (hE : PassesOwn (model prog w) A env E) (hh : A.handled = none)
    (h0 : Inv m 0 h₀ m nw)
    (turn : let lv := vs
      ∀ I i it b tb g' m' nw' h tk, b ∈ bs → Inv m i g' m' nw' → @LT.lt Nat _ l I → (∀ p ∈ nw', @Ne Nat p.1 I) → Fr g' env.locals h m' → News g' env.locals h ((I, it) :: (l, listO lv k) :: nw') →
      let P := PostG env.locals { s with heap := h, toks := tk } I it (l, listO lv k) (Inv m (i + 1)) Q
      wpAny (model prog w) A (assign target env (.str b tb)) (fun _ s₂ => wpAny (model prog w) A (execs body env) P E s₂) E { s with heap := h, toks := tk })
    (fin : ∀ g' m' nw' h tk, Inv m vs.length g' m' nw' → Fr g' env.locals h m' → News g' env.locals h nw' → Q .next { s with heap := h, toks := tk }) :
    wpAny (model prog w) A (pyIter (.ref l)) (fun it s₂ => ForAt prog w A E env target body Q it s₂) E s := by
  refine for_grd (Inv m) F N hl hs hE hh h0 (fun I i it v g' m' nw' h tk hv => ?_) fin
  obtain ⟨b, tb, rfl, hin⟩ := strs_val hb v (List.mem_of_getElem? hv)
  exact turn I i it b tb g' m' nw' h tk hin
end
theorem fresh_E8 : True := by (w_top off); trivial
section
variable {w : World} {A₀ A : Around} {base h₀ : Heap} {outer : List Env} {L : Addr} {m : Str → Option Value} {env : Env} {s : Shared} {Q E : Value → Shared → Prop}
  {loose : List Str} {mean : ExcName → Option Value} {mg mb : Str → Option Value} {led : Led} {gl : Obj → Led}
theorem call177 {x : Str} {t : Tok}
  (ret : ∀ t1 h' tk', Fr h₀ L h' m → News h₀ L h' led → Q (.str (quoteS x) t1) { s with heap := h', toks := tk' })
  (F : Fr h₀ L s.heap m := by k_asm) (N : News h₀ L s.heap led := by k_asm) (B : Below A₀ base outer h₀ := by k_asm) (X : (KK w).In h₀ := by k_asm) (T : Top topProg loose mean mg mb h₀ := by k_asm)
  (hA : A.frames = some (env :: outer) := by rfl) (hh : A.handled = none := by rfl) (hf : env.frame = some L := by rfl) (hke : env.scope.kind = .function := by rfl) (hsub : SubL [] led := by k_subL) (hd : A.depth + 5 < recursionLimit := by k_room) (hu : A.units + 100 < cLine := by k_room) (hx : x.length ≤ 1000 := by omega) : wpAny (model PR w) A (call (.ref 177) [.str x t]) Q E s :=
  useS (lquoted_ok w x t hx) ret F N B X T hA hh hf hke hsub hd hu
theorem call106 {x : Str} {t : Tok}
  (ret : ∀ t1 h' tk', Fr h₀ L h' m → News h₀ L h' led → Q (.str (quoteS x) t1) { s with heap := h', toks := tk' })
  (F : Fr h₀ L s.heap m := by k_asm) (N : News h₀ L s.heap led := by k_asm) (B : Below A₀ base outer h₀ := by k_asm) (X : (KK w).In h₀ := by k_asm) (T : Top topProg loose mean mg mb h₀ := by k_asm)
  (hA : A.frames = some (env :: outer) := by rfl) (hh : A.handled = none := by rfl) (hf : env.frame = some L := by rfl) (hke : env.scope.kind = .function := by rfl) (hsub : SubL [] led := by k_subL) (hd : A.depth + 5 < recursionLimit := by k_room) (hu : A.units + 100 < cLine := by k_room) (hx : x.length ≤ 1000 := by omega) : wpAny (model PR w) A (call (.ref 106) [.str x t]) Q E s :=
  useS (quoted_ok w x t hx) ret F N B X T hA hh hf hke hsub hd hu
end
local macro_rules | `(tactic| walk_at "call ref") => `(tactic| (k_here; k_dflt refine call177 ?_; intros; k_sweep))
local macro_rules | `(tactic| walk_at "call ref") => `(tactic| (k_here; k_dflt refine call106 ?_; intros; k_sweep))
theorem asc_dec {x : Str} (h : ∀ c ∈ x.cps.toList, c < 128) : Asc x := h
theorem ne_str_self {prog : Program} {w : World} {A : Around} {E : Value → Shared → Prop} {s : Shared} {x : Str} {t u : Tok} {Q : Value → Shared → Prop} (h : Q (.bool false) s) : wpAny (model prog w) A (compareOp .NotEq (.str x t) (.str x u)) Q E s := PyProof.Rows.ne_str (by rw [bne_self_eq_false]; exact h)
/-- the first loop of _law_text_right -/
def InvA (x : Str) (ps : Array Value) (cl : Led) (g₀ : Heap) (c1 c2 : Addr) (m₀ : Str → Option Value) (i : Nat) (g' : Heap) (m : Str → Option Value) (nw : Led) : Prop :=
  g' = g₀ ∧ m = m₀ ∧ ∃ o1 o2 t, nw = (c2, o2) :: (c1, o1) :: (179, tabObj ps) :: cl ∧ o2.data = .cell (some (.str (quoteS x) t)) ∧ ∃ v0, o1.data = .cell v0
abbrev qR : Str := Str.ofString "_law_text_right" ++ Str.ofString ".<locals>." ++ Str.ofString "<lambda>"
structure CodeO (q : Str) (c : Addr) (oc : Obj) : Prop where
  dat : ∃ vs t, oc.data = .fields vs ∧ vs[1]? = some (.str q t)
  n1 : @Ne Nat c 179
theorem CodeO.ne {q : Str} {c a : Addr} {oc o : Obj} {v : Option Value} {h : Heap} (C : CodeO q c oc) (e : h.get? c = some oc) (e' : h.get? a = some o) (hd : o.data = .cell v) : @Ne Nat c a := fun z => by
  obtain ⟨vs, t, h1, _⟩ := C.dat
  rw [show c = a from z, e'] at e
  cases e
  rw [hd] at h1; cases h1
abbrev tab1 (c : Addr) : Array Value := #[rawInt 152, rawInt 24, .ref c]
abbrev tab2 (c c' : Addr) : Array Value := #[rawInt 152, rawInt 24, .ref c, rawInt 154, rawInt 24, .ref c']
/-- the table of codes of _law_text_right, all made -/
def Full (ps : Array Value) (cl : Led) : Prop := ∃ c oc c' oc', ps = tab2 c c' ∧ cl = [(c, oc), (c', oc')] ∧ CodeO qR c oc ∧ CodeO qR c' oc'
def TabSt (cl0 : Led) (i : Nat) (ps : Array Value) (cl : Led) : Prop :=
  (i = 0 ∧ ps = #[] ∧ cl = [] ∧ cl0 = []) ∨ (∃ c oc, ps = tab1 c ∧ cl = [(c, oc)] ∧ CodeO qR c oc ∧ cl0 = []) ∨ (Full ps cl ∧ cl = cl0)
/-- the second loop -/
def InvB (w : World) (x : Str) (cl0 : Led) (A₀ : Around) (base : Heap) (envs : List Env) (g₀ : Heap) (c1 c2 : Addr) (m₀ : Str → Option Value) (i : Nat) (g' : Heap) (m : Str → Option Value) (nw : Led) : Prop :=
  KtsTurn (frs envs) g₀ g' ∧ m = m₀ ∧ Below A₀ base envs g' ∧ KtsDicts (frs envs) g' ∧ ∃ o1 o2 t ps cl, nw = (c2, o2) :: (c1, o1) :: (179, tabObj ps) :: cl ∧ o2.data = .cell (some (.str (quoteS x) t)) ∧ (∃ v0, o1.data = .cell v0) ∧ TabSt cl0 i ps cl
/-- what the loops' lines need: the invariants taken apart before the walk -/
@[elab_as_elim] theorem InvA.out {x : Str} {ps : Array Value} {cl : Led} {g₀ : Heap} {c1 c2 : Addr} {m₀ : Str → Option Value} {i : Nat} {G : Heap → (Str → Option Value) → Led → Prop} (g' : Heap) (m : Str → Option Value) (nw : Led) (H : InvA x ps cl g₀ c1 c2 m₀ i g' m nw)
    (h : ∀ o1 o2 t v0, o2.data = .cell (some (.str (quoteS x) t)) → o1.data = .cell v0 → G g₀ m₀ ((c2, o2) :: (c1, o1) :: (179, tabObj ps) :: cl)) : G g' m nw := by
  obtain ⟨rfl, rfl, o1, o2, t, rfl, h2, v0, h1⟩ := H
  exact h _ _ _ _ h2 h1
@[elab_as_elim] theorem InvB.out {w : World} {x : Str} {A₀ : Around} {base g₀ g' : Heap} {envs : List Env} {c1 c2 : Addr} {m₀ : Str → Option Value} {i : Nat} {G : (Str → Option Value) → Led → Prop} (m : Str → Option Value) (nw : Led) (H : InvB w x [] A₀ base envs g₀ c1 c2 m₀ i g' m nw)
    (h0 : ∀ o1 o2 t v0, KtsTurn (frs envs) g₀ g' → Below A₀ base envs g' → KtsDicts (frs envs) g' → o2.data = .cell (some (.str (quoteS x) t)) → o1.data = .cell v0 → i = 0 → G m₀ ((c2, o2) :: (c1, o1) :: (179, tabObj #[]) :: []))
    (h1 : ∀ o1 o2 t v0, KtsTurn (frs envs) g₀ g' → Below A₀ base envs g' → KtsDicts (frs envs) g' → o2.data = .cell (some (.str (quoteS x) t)) → o1.data = .cell v0 → ∀ c oc, CodeO qR c oc → G m₀ ((c2, o2) :: (c1, o1) :: (179, tabObj (tab1 c)) :: [(c, oc)])) : G m nw := by
  obtain ⟨KT, rfl, B, D, o1, o2, t, ps, cl, rfl, ho2, ⟨v0, ho1⟩, htab⟩ := H
  rcases htab with ⟨e, rfl, rfl, e0⟩ | ⟨c, oc, rfl, rfl, K1, e0⟩ | ⟨⟨_, _, _, _, _, e, _⟩, e'⟩
  · exact h0 _ _ _ _ KT B D ho2 ho1 e
  · exact h1 _ _ _ _ KT B D ho2 ho1 c oc K1
  · rw [e'] at e; cases e
@[elab_as_elim] theorem InvB.full {w : World} {x : Str} {k1 k2 : Addr} {ok1 ok2 : Obj} {A₀ : Around} {base g₀ g' : Heap} {envs : List Env} {c1 c2 : Addr} {m₀ : Str → Option Value} {i : Nat} {G : (Str → Option Value) → Led → Prop} (m : Str → Option Value) (nw : Led)
    (H : InvB w x [(k1, ok1), (k2, ok2)] A₀ base envs g₀ c1 c2 m₀ i g' m nw)
    (h : ∀ o1 o2 t v0, KtsTurn (frs envs) g₀ g' → Below A₀ base envs g' → KtsDicts (frs envs) g' → o2.data = .cell (some (.str (quoteS x) t)) → o1.data = .cell v0 → G m₀ ((c2, o2) :: (c1, o1) :: (179, tabObj (tab2 k1 k2)) :: [(k1, ok1), (k2, ok2)])) : G m nw := by
  obtain ⟨KT, rfl, B, D, o1, o2, t, ps, cl, rfl, ho2, ⟨v0, ho1⟩, htab⟩ := H
  rcases htab with ⟨_, _, _, e⟩ | ⟨_, _, _, _, _, e⟩ | ⟨⟨_, _, _, _, rfl, e, _, _⟩, rfl⟩
  · cases e
  · cases e
  cases e
  exact h _ _ _ _ KT B D ho2 ho1
@[elab_as_elim] theorem str_of {P : Str → Prop} {G : Value → Prop} (v : Value) (H : ∃ b tb, v = .str b tb ∧ P b) (h : ∀ b tb, P b → G (.str b tb)) : G v := by
  obtain ⟨b, tb, rfl, p⟩ := H
  exact h b tb p
section
variable {M : Model} {A : Around} {E : Value → Shared → Prop} {s' : Shared} {base g g₂ h : Heap} {outer : List Env} {L e : Addr} {m : Str → Option Value} {env : Env} {Q : Unit → Shared → Prop} {news : Led} {cls : Value}
theorem tab_app (a b c d e f : Value) : #[a, b, c] ++ #[d, e, f] = #[a, b, c, d, e, f] := rfl
/-- an exception leaves a frame that has cells -/
theorem leave_onX (K : Below A base outer g) (hf : env.frame = some L) (hkd : env.scope.kind = .function) (F : Fr g L g₂ m) (R : RaisedSN base g₂ (env :: outer) e cls news s'.heap) (hsm : g₂.UpToSlots s'.heap)
    (hQ : ∀ h', RaisedSN base g outer e cls news h' → g.UpToSlots h' → Q () { s' with heap := h' }) :
    wpAny M (A.deeper env) (leaving env (.ref e)) Q E s' := by
  obtain ⟨B, a0, hB, hBG, hl, hfl⟩ := R
  exact wpAny_leaves_onW (Around.frames_deeper K.stack) hf hfl fun h' x1 x2 =>
    hQ h' ⟨B, a0, hB, fun b o q nm => hBG b o (F.keep b o q) (fun hm => by
      rcases frs_mem hf hm with z | z
      · rw [z, kts_self F] at q
        cases q
      · exact nm z), fun q hq => ⟨(hl q hq).1, kts_none F.keep (hl q hq).2.1, (hl q hq).2.2⟩, x1⟩ ((Heap.UpToSlots.of_keeps F.keep).trans (hsm.trans x2))
end
theorem ne_si {w : World} {A : Around} {E : Value → Shared → Prop} {s : Shared} {h₀ : Heap} {L a b : Addr} {led : Led} {x : Str} {n : Int} {t1 t2 t3 t4 : Tok} {Q : Value → Shared → Prop} (h : Q (.bool false) s) (N : News h₀ L s.heap led := by k_asm) (ha : (a, tupO [.str x t1, .int n t2]) ∈ led := by k_mem) (hb : (b, tupO [.str x t3, .int n t4]) ∈ led := by k_mem)
    (hx : Asc x := by assumption) (hu : A.units + 64 < cLine := by k_room) : wpAny (model PR w) A (compareOp .NotEq (.ref a) (.ref b)) Q E s :=
  ne_same (reads_tupN N ha (.cons (.str _ _) (.cons (.int _ _) .nil))) (reads_tupN N hb (.cons (.str _ _) (.cons (.int _ _) .nil))) (shaped_si hx) (si_noMix _ _) hu h
def bsA : List Str := [Str.ofString "", Str.ofString " ", Str.ofString "!", Str.ofString " \"a\""]
def bsB : List Str := [Str.ofString "x", Str.ofString "\"", Str.ofString "5 "]
theorem bsA_ok : ∀ b ∈ bsA, Asc b ∧ b.length ≤ 10 ∧ okAfter (cp b) = true := by
  intro b hb
  simp only [bsA, List.mem_cons, List.not_mem_nil, or_false] at hb
  rcases hb with rfl | rfl | rfl | rfl <;> exact ⟨asc_dec (by decide), by decide, by decide⟩
theorem bsB_ok : ∀ b ∈ bsB, Asc b ∧ b.length ≤ 10 ∧ okAfter (cp b) = false := by
  intro b hb
  simp only [bsB, List.mem_cons, List.not_mem_nil, or_false] at hb
  rcases hb with rfl | rfl | rfl <;> exact ⟨asc_dec (by decide), by decide, by decide⟩
theorem CodeO.el {q : Str} {c : Addr} {oc : Obj} {P : Prop} (C : CodeO q c oc) (h : ∀ vs t, oc.data = .fields vs → vs[1]? = some (.str q t) → P) : P := by
  obtain ⟨vs, t, a, b⟩ := C.dat
  exact h vs t a b
section
variable {w : World} {A₀ A : Around} {base h₀ : Heap} {outer : List Env} {L : Addr} {m : Str → Option Value} {env : Env} {s : Shared} {Q E : Value → Shared → Prop}
  {loose : List Str} {mean : ExcName → Option Value} {mg mb : Str → Option Value} {led : Led} {gl : Obj → Led}
theorem call68t {x b : Str} {t t1 t2 : Tok} {row : Int}
  (ret : ∀ l t3 t4 h' tk', Fr h₀ L h' m → News h₀ L h' ((l, tupO [.str x t3, .int (quoteS x).length t4]) :: led) → OffAll led l → Q (.ref l) { s with heap := h', toks := tk' })
  (F : Fr h₀ L s.heap m := by k_asm) (N : News h₀ L s.heap led := by k_asm) (B : Below A₀ base outer h₀ := by k_asm) (X : (KK w).In h₀ := by k_asm) (T : Top topProg loose mean mg mb h₀ := by k_asm)
  (hA : A.frames = some (env :: outer) := by rfl) (hh : A.handled = none := by rfl) (hf : env.frame = some L := by rfl) (hke : env.scope.kind = .function := by rfl) (hsub : SubL [] led := by k_subL) (hd : A.depth + 12 < recursionLimit := by k_room) (hu : A.units + 200 < cLine := by k_room) (hx : x.length ≤ 100 := by assumption) (ha : Asc x := by assumption) (hb : Asc b := by assumption) (hbl : b.length ≤ 10 := by assumption) (ho : okAfter (cp b) = true := by assumption) : wpAny (model PR w) A (call (.ref 68) [.str (quoteS x ++ b) t, .int 1 t1, .int row t2]) Q E s :=
  useR (readq_tail w x b t t1 t2 row hx ha hb hbl ho) ret F N B X T hA hh hf hke hsub hd hu
end
section
local macro_rules | `(tactic| walk_at "call ref") => `(tactic| (with_reducible refine stop_call (n := 61) ?_))
local macro_rules | `(tactic| walk_at "call ref") => `(tactic| (with_reducible refine stop_call (n := 146) ?_))
local macro_rules | `(tactic| walk_at "call ref") => `(tactic| (with_reducible refine stop_call (n := 68) ?_))
local macro_rules | `(tactic| walk_at "call ref") => `(tactic| (k_here; k_dflt refine call68t ?_; intros; k_sweep))
local macro_rules | `(tactic| walk_at "compareOp NotEq ref ref") => `(tactic| (k_here; first | k_dflt refine ne_si ?_ | refine Stop.mk ?_))
local macro_rules | `(tactic| walk_at "compareOp NotEq str str") => `(tactic| (k_here; k_dflt refine ne_str_self ?_))
local macro_rules | `(tactic| walk_at "exec For Name List cons nil") => `(tactic| (k_here; k_dflt refine for_start (by intro _; rfl) ?_))
local macro_rules | `(tactic| walk_at "pyIter ref") => `(tactic| (with_reducible refine stop_iterF ?_))
theorem ne_all {q : Str} {h₀ h : Heap} {L a : Addr} {led : Led} {c : Addr} {oc o : Obj} {v : Option Value} (C : CodeO q c oc) (N : News h₀ L h led) (e : (c, oc) ∈ led) (e' : (a, o) ∈ led) (hd : o.data = .cell v) : @Ne Nat c a := C.ne (N _ e).1 (N _ e').1 hd
local macro_rules | `(tactic| walk_at "callWith ref") => `(tactic| (k_here; k_dflt (first | refine callWith_K (by k_asm) (by k_is) ?_ | refine callWith_K0 (by k_in) (by k_is) ?_)))
theorem textA (w : World) (x : Str) (t : Tok) (hx : x.length ≤ 100) (ha : Asc x) :
    SpecT w 184 [.str x t] [(179, tabObj #[])] [] (fun v upd new => v = .bool true ∧ ∃ ps' cl', upd = [(179, tabObj ps')] ∧ Full ps' cl' ∧ (∀ p ∈ cl', p ∈ new ++ []) ∧ ∀ p ∈ new, p ∈ cl') 60 1000 := by
  unfold SpecT KK PR
  k_fill
  intro loose mean mg mb dp un gd envs base g s R B XB TB D C hk hsz hp hd hu hret
  have X : (Mine.k.heap_1 w.params).In g := XB.keeps B.stays
  have T := TB.keeps B.stays
  have hq := quote_len hx
  (k_dflt refine code_sepC (h := ?_)); k_whole; intro L' h' tk' cells' ev mp F' N' Y' l1; (try simp only [List.nil_append, List.cons_append, List.append_nil] at l1); (try k_lt l1); k_cells Y'; (try dsimp only [List.nil_append, List.cons_append] at N'); intro Ar Mo; (try ((show wpAny _ _ _ _ _ _); k_fold))
  k_steps
  refine' for_strM bsA (led := _ :: _ :: (?c2, _) :: (?c1, _) :: (179, tabObj #[]) :: []) (nw := (?c2, _) :: (?c1, _) :: (179, tabObj #[]) :: []) (InvA x #[] [] g ?c1 ?c2) ?F ?N ?l ?hb ?sub ?E ?hh ?init ?turn ?fin
  case F => k_asm
  case N => k_asm
  case l => exact .head _
  case hb => repeat first | exact .nil | refine .cons _ _ ?_
  case sub => (repeat' first | exact List.forall_mem_nil _ | refine sub_cons (by k_mem) ?_ | (intro q hq; k_mem))
  case init => exact ⟨rfl, rfl, _, _, _, rfl, by assumption, _, by assumption⟩
  case E => first | passes_own | with_unfolding_all passes_own
  case hh => rfl
  case turn =>
    intro lv I i it b tb g' m' nw' h tk hin Hi
    have hb1 := (bsA_ok b hin).1
    have hb2 := (bsA_ok b hin).2.1
    have hb3 := (bsA_ok b hin).2.2
    clear hin
    refine InvA.out g' m' nw' Hi ?_
    clear Hi
    intro o1 o2 tt v0 ho2 ho1
    intro lI hne F N P
    repeat (have hx9 := (off_cons hne).1; replace hne := (off_cons hne).2; dsimp only at hx9)
    (try ((show wpAny _ _ _ _ _ _); k_fold))
    k_steps
    refine EndG.mk ((_, _) :: (_, _) :: (179, tabObj #[]) :: []) (by assumption) (by assumption) (by k_mem) (by k_mem) ?sub ?ne ⟨rfl, rfl, _, _, _, rfl, ho2, _, by assumption⟩
    case sub => (repeat' first | exact List.forall_mem_nil _ | refine sub_cons (by k_mem) ?_ | (intro q hq; k_mem))
    case ne => (repeat' first | exact List.forall_mem_nil _ | assumption | refine ne_cons (by k_ne) ?_)
  case fin =>
    intro g' m' nw' h tk Hi
    refine InvA.out g' m' nw' Hi ?_
    clear Hi
    intro o1 o2 tt v0 ho2 ho1 F N
    (try ((show wpAny _ _ _ _ _ _); k_fold))
    k_steps
    refine' for_strM bsB (led := _ :: (?c2, _) :: (?c1, _) :: (179, tabObj #[]) :: []) (nw := (?c2, _) :: (?c1, _) :: (179, tabObj #[]) :: []) (InvB w x [] (arX dp un gd envs) base envs g ?c1 ?c2) ?F ?N ?l ?hb ?sub ?E ?hh ?init ?turn ?fin
    case F => k_asm
    case N => k_asm
    case l => exact .head _
    case hb => repeat first | exact .nil | refine .cons _ _ ?_
    case sub => (repeat' first | exact List.forall_mem_nil _ | refine sub_cons (by k_mem) ?_ | (intro q hq; k_mem))
    case init => exact ⟨KtsTurn.refl, rfl, B, D, _, _, _, _, [], rfl, by assumption, ⟨_, by assumption⟩, .inl ⟨rfl, rfl, rfl, rfl⟩⟩
    case E => first | passes_own | with_unfolding_all passes_own
    case hh => rfl
    case turn =>
      intro lv I i it b tb g' m' nw' h tk hin Hi
      have hb1 := (bsB_ok b hin).1
      have hb2 := (bsB_ok b hin).2.1
      have hb3 := (bsB_ok b hin).2.2
      clear hin
      refine InvB.out m' nw' Hi ?_ ?_ <;> clear Hi
      · intro o1 o2 tt v0 KT B D ho2 ho1 _
        have X : (Mine.k.heap_1 w.params).In g' := XB.keeps B.stays
        have T := TB.keeps B.stays
        intro lI hne F N P
        (repeat (have hx9 := (off_cons hne).1; replace hne := (off_cons hne).2; dsimp only at hx9))
        (try ((show wpAny _ _ _ _ _ _); k_fold))
        k_steps
        rename_i f9 c9 oc9 vs9 t9 ct9 h9 tk9 F9 N9 d19 d29 l19 l29
        have hd1 := ‹Obj.data _ = Data.cell (some (Value.str b tb))›
        refine' useO (d := 24) (u := 600) ?S ⟨_, _, _, _, .head _⟩ ?ret F9 N9 (XB := XB) (TB := TB) (C := C)
        case S =>
          unfold SpecX KK PR
          k_fill
          intro loose mean mg mb dp un gd envs base g s R B X T hk hsz hp hd hu hret hexc
          refine' code_sepL T hk hsz hp (.head _) ⟨c9, oc9, _, _, rfl, (hp (c9, oc9) (by k_mem)).1, d19, d29⟩ ?hr ?hb ?hl ?_ ?z2 ?z3 ?z4 ?z5
          case hr => exact room_0 (by assumption)
          case hb => rfl
          case hl => exact locs rfl
          case z5 => decide
          case z2 => rfl
          case z3 => rfl
          case z4 => rfl
          intro L' h' mp F' N' ev Ar Mo
          (try dsimp only)
          (try ((show wpAny _ _ _ _ _ _); k_fold))
          k_steps
          refine' spec_useX (readq_bad w x b _ _ _ _ hx ha hb1 hb2 hb3) ?x1 ?x2 ?x3 ?x4 ?x5 ?y1 ?y2 ?y3 ?y4 ?y7 ?y8 (fun _ _ _ _ _ _ _ h => h.elim) ?_
          case x2 => k_asm
          case x4 => k_asm
          case x1 => k_asm
          case x3 => k_asm
          case x5 => k_asm
          case y1 => rfl
          case y2 => rfl
          case y3 => rfl
          case y4 => rfl
          case y7 => k_room
          case y8 => k_room
          intro e' g2' h2' tk2' FG2 R2 U2 _
          (try dsimp only)
          refine leave_onX B rfl rfl FG2 R2 U2 ?_
          intro h3' R3 U3
          exact hexc _ _ _ R3 U3 trivial
        case ret =>
          intro h' tk' g₂ KT₂ F₂ N₃ B₂ D₂ 
          have X₂ : (Mine.k.heap_1 w.params).In g₂ := XB.keeps B₂.stays
          have T₂ := TB.keeps B₂.stays
          (try simp only [Array.empty_append, tab1, tab_app] at N₃)
          k_steps
          refine EndG.mk [(_, _), (_, _), (179, tabObj (tab1 c9)), (c9, oc9)] (by assumption) (by assumption) (by k_mem) (by k_mem) ?sub ?ne ⟨KT.trans KT₂, rfl, by assumption, by assumption, _, _, _, _, _, rfl, ho2, ⟨_, hd1⟩, .inr (.inl ⟨_, _, rfl, rfl, ⟨⟨_, _, d19, d29⟩, by omega⟩, rfl⟩)⟩
          case sub => (repeat' first | exact List.forall_mem_nil _ | refine sub_cons (by k_mem) ?_ | (intro q hq; k_mem))
          case ne => (repeat' first | exact List.forall_mem_nil _ | assumption | refine ne_cons (by k_ne) ?_)
      · intro o1 o2 tt v0 KT B D ho2 ho1 k1 ok1 K1
        have X : (Mine.k.heap_1 w.params).In g' := XB.keeps B.stays
        have T := TB.keeps B.stays
        intro lI hne F N P
        have kn1 := K1.n1
        refine CodeO.el K1 ?_
        intro vs1 t1 dk1 dk2
        (repeat (have hx9 := (off_cons hne).1; replace hne := (off_cons hne).2; dsimp only at hx9))
        have hc1 := ne_all K1 N (by k_mem) (.tail _ (.tail _ (.tail _ (.head _)))) ho1
        (try ((show wpAny _ _ _ _ _ _); k_fold))
        k_steps
        rename_i f9 ct9 h9 tk9 F9 N9 l19
        have hd1 := ‹Obj.data _ = Data.cell (some (Value.str b tb))›
        refine' useO (d := 24) (u := 600) ?S ⟨_, _, _, _, .head _⟩ ?ret F9 N9 (XB := XB) (TB := TB) (C := C)
        case S =>
          unfold SpecX KK PR
          k_fill
          intro loose mean mg mb dp un gd envs base g s R B X T hk hsz hp hd hu hret hexc
          refine' code_sepL T hk hsz hp (.head _) ⟨k1, ok1, _, _, rfl, (hp (k1, ok1) (by k_mem)).1, dk1, dk2⟩ ?hr ?hb ?hl ?_ ?z2 ?z3 ?z4 ?z5
          case hr => exact room_0 (by assumption)
          case hb => rfl
          case hl => exact locs rfl
          case z5 => decide
          case z2 => rfl
          case z3 => rfl
          case z4 => rfl
          intro L' h' mp F' N' ev Ar Mo
          (try dsimp only)
          (try ((show wpAny _ _ _ _ _ _); k_fold))
          k_steps
          refine' spec_useX (readq_bad w x b _ _ _ _ hx ha hb1 hb2 hb3) ?x1 ?x2 ?x3 ?x4 ?x5 ?y1 ?y2 ?y3 ?y4 ?y7 ?y8 (fun _ _ _ _ _ _ _ h => h.elim) ?_
          case x2 => k_asm
          case x4 => k_asm
          case x1 => k_asm
          case x3 => k_asm
          case x5 => k_asm
          case y1 => rfl
          case y2 => rfl
          case y3 => rfl
          case y4 => rfl
          case y7 => k_room
          case y8 => k_room
          intro e' g2' h2' tk2' FG2 R2 U2 _
          (try dsimp only)
          refine leave_onX B rfl rfl FG2 R2 U2 ?_
          intro h3' R3 U3
          exact hexc _ _ _ R3 U3 trivial
        case ret =>
          intro h' tk' g₂ KT₂ F₂ N₃ B₂ D₂ 
          have X₂ : (Mine.k.heap_1 w.params).In g₂ := XB.keeps B₂.stays
          have T₂ := TB.keeps B₂.stays
          (try simp only [Array.empty_append, tab1, tab_app] at N₃)
          k_steps
          refine EndG.mk [(_, _), (_, _), (179, tabObj (tab1 k1)), (k1, ok1)] (by assumption) (by assumption) (by k_mem) (by k_mem) ?sub ?ne ⟨KT.trans KT₂, rfl, by assumption, by assumption, _, _, _, _, _, rfl, ho2, ⟨_, hd1⟩, .inr (.inl ⟨_, _, rfl, rfl, K1, rfl⟩)⟩
          case sub => (repeat' first | exact List.forall_mem_nil _ | refine sub_cons (by k_mem) ?_ | (intro q hq; k_mem))
          case ne => (repeat' first | exact List.forall_mem_nil _ | assumption | refine ne_cons (by k_ne) ?_)
    case fin =>
      intro g' m' nw' h tk Hi
      refine InvB.out m' nw' Hi (fun _ _ _ _ _ _ _ _ _ e => absurd e (by simp)) ?_
      · clear Hi
        intro o1 o2 tt v0 KT B D ho2 ho1 k1 ok1 K1 F N
        have X : (Mine.k.heap_1 w.params).In g' := XB.keeps B.stays
        have T := TB.keeps B.stays
        have kn1 := K1.n1
        (try ((show wpAny _ _ _ _ _ _); k_fold))
        k_steps
        rename_i f9 c9 oc9 vs9 t9 ct9 h9 tk9 F9 N9 d19 d29 l19 l29
        refine' useO (d := 24) (u := 600) ?S ⟨_, _, _, _, .head _⟩ ?ret F9 N9 (XB := XB) (TB := TB) (C := C)
        case S =>
          unfold SpecX KK PR
          k_fill
          intro loose mean mg mb dp un gd envs base g s R B X T hk hsz hp hd hu hret hexc
          refine' code_sepL T hk hsz hp (.head _) ⟨c9, oc9, _, _, rfl, (hp (c9, oc9) (by k_mem)).1, d19, d29⟩ ?hr ?hb ?hl ?_ ?z2 ?z3 ?z4 ?z5
          case hr => exact room_0 (by assumption)
          case hb => rfl
          case hl => exact locs rfl
          case z5 => decide
          case z2 => rfl
          case z3 => rfl
          case z4 => rfl
          intro L' h' mp F' N' ev Ar Mo
          (try dsimp only)
          (try ((show wpAny _ _ _ _ _ _); k_fold))
          k_steps
          refine' spec_useX (words_bad w x _ _ _ hx ha) ?x1 ?x2 ?x3 ?x4 ?x5 ?y1 ?y2 ?y3 ?y4 ?y7 ?y8 (fun _ _ _ _ _ _ _ h => h.elim) ?_
          case x2 => k_asm
          case x4 => k_asm
          case x1 => k_asm
          case x3 => k_asm
          case x5 => k_asm
          case y1 => rfl
          case y2 => rfl
          case y3 => rfl
          case y4 => rfl
          case y7 => k_room
          case y8 => k_room
          intro e' g2' h2' tk2' FG2 R2 U2 _
          (try dsimp only)
          refine leave_onX B rfl rfl FG2 R2 U2 ?_
          intro h3' R3 U3
          exact hexc _ _ _ R3 U3 trivial
        case ret =>
          intro h' tk' g₂ KT₂ F₂ N₃ B₂ D₂ 
          have X₂ : (Mine.k.heap_1 w.params).In g₂ := XB.keeps B₂.stays
          have T₂ := TB.keeps B₂.stays
          (try simp only [Array.empty_append, tab1, tab_app] at N₃)
          k_steps
          (try dsimp only)
          (try k_unfold)
          (try dsimp only)
          exact hret _ [(179, tabObj (tab2 k1 c9))] [(k1, ok1), (c9, oc9)] _ _ g₂ (KT.trans KT₂) (Fr.keep F₂) (out_news N₃ (by simp only [List.nil_append, List.cons_append, List.append_nil]; (repeat' first | exact List.forall_mem_nil _ | refine sub_cons (by k_mem) ?_ | (intro q hq; k_mem)))) (fun p hp q hq => by
            simp only [List.append_nil, List.mem_singleton] at hq
            subst hq
            simp only [List.mem_cons, List.not_mem_nil, or_false] at hp
            rcases hp with rfl | rfl
            · exact Ne.symm kn1
            · exact (Nat.ne_of_lt (by omega) : @Ne Nat 179 c9)) ⟨rfl, _, _, rfl, ⟨_, _, _, _, rfl, rfl, K1, ⟨⟨_, _, d19, d29⟩, by omega⟩⟩, (fun p h => by simpa using h), fun p h => h⟩
theorem textB (w : World) (x : Str) (t : Tok) (k1 k2 : Addr) (ok1 ok2 : Obj) (K1 : CodeO qR k1 ok1) (K2 : CodeO qR k2 ok2) (hx : x.length ≤ 100) (ha : Asc x) :
    SpecT w 184 [.str x t] [(179, tabObj (tab2 k1 k2))] [(k1, ok1), (k2, ok2)] (fun v upd new => v = .bool true ∧ ∃ ps' cl', upd = [(179, tabObj ps')] ∧ Full ps' cl' ∧ (∀ p ∈ cl', p ∈ new ++ [(k1, ok1), (k2, ok2)]) ∧ ∀ p ∈ new, p ∈ cl') 60 1000 := by
  have kn1 := K1.n1
  have kn2 := K2.n1
  unfold SpecT KK PR
  k_fill
  intro loose mean mg mb dp un gd envs base g s R B XB TB D C hk hsz hp hd hu hret
  have X : (Mine.k.heap_1 w.params).In g := XB.keeps B.stays
  have T := TB.keeps B.stays
  have hq := quote_len hx
  (k_dflt refine code_sepC (h := ?_)); k_whole; intro L' h' tk' cells' ev mp F' N' Y' l1; (try simp only [List.nil_append, List.cons_append, List.append_nil] at l1); (try k_lt l1); k_cells Y'; (try dsimp only [List.nil_append, List.cons_append] at N'); intro Ar Mo; (try ((show wpAny _ _ _ _ _ _); k_fold))
  k_steps
  refine' for_strM bsA (led := _ :: _ :: (?c2, _) :: (?c1, _) :: (179, tabObj (tab2 k1 k2)) :: [(k1, ok1), (k2, ok2)]) (nw := (?c2, _) :: (?c1, _) :: (179, tabObj (tab2 k1 k2)) :: [(k1, ok1), (k2, ok2)]) (InvA x (tab2 k1 k2) [(k1, ok1), (k2, ok2)] g ?c1 ?c2) ?F ?N ?l ?hb ?sub ?E ?hh ?init ?turn ?fin
  case F => k_asm
  case N => k_asm
  case l => exact .head _
  case hb => repeat first | exact .nil | refine .cons _ _ ?_
  case sub => (repeat' first | exact List.forall_mem_nil _ | refine sub_cons (by k_mem) ?_ | (intro q hq; k_mem))
  case init => exact ⟨rfl, rfl, _, _, _, rfl, by assumption, _, by assumption⟩
  case E => first | passes_own | with_unfolding_all passes_own
  case hh => rfl
  case turn =>
    intro lv I i it b tb g' m' nw' h tk hin Hi
    have hb1 := (bsA_ok b hin).1
    have hb2 := (bsA_ok b hin).2.1
    have hb3 := (bsA_ok b hin).2.2
    clear hin
    refine InvA.out g' m' nw' Hi ?_
    clear Hi
    intro o1 o2 tt v0 ho2 ho1
    intro lI hne F N P
    repeat (have hx9 := (off_cons hne).1; replace hne := (off_cons hne).2; dsimp only at hx9)
    (try ((show wpAny _ _ _ _ _ _); k_fold))
    k_steps
    refine EndG.mk ((_, _) :: (_, _) :: (179, tabObj (tab2 k1 k2)) :: [(k1, ok1), (k2, ok2)]) (by assumption) (by assumption) (by k_mem) (by k_mem) ?sub ?ne ⟨rfl, rfl, _, _, _, rfl, ho2, _, by assumption⟩
    case sub => (repeat' first | exact List.forall_mem_nil _ | refine sub_cons (by k_mem) ?_ | (intro q hq; k_mem))
    case ne => (repeat' first | exact List.forall_mem_nil _ | assumption | refine ne_cons (by k_ne) ?_)
  case fin =>
    intro g' m' nw' h tk Hi
    refine InvA.out g' m' nw' Hi ?_
    clear Hi
    intro o1 o2 tt v0 ho2 ho1 F N
    (try ((show wpAny _ _ _ _ _ _); k_fold))
    k_steps
    refine' for_strM bsB (led := _ :: (?c2, _) :: (?c1, _) :: (179, tabObj (tab2 k1 k2)) :: [(k1, ok1), (k2, ok2)]) (nw := (?c2, _) :: (?c1, _) :: (179, tabObj (tab2 k1 k2)) :: [(k1, ok1), (k2, ok2)]) (InvB w x [(k1, ok1), (k2, ok2)] (arX dp un gd envs) base envs g ?c1 ?c2) ?F ?N ?l ?hb ?sub ?E ?hh ?init ?turn ?fin
    case F => k_asm
    case N => k_asm
    case l => exact .head _
    case hb => repeat first | exact .nil | refine .cons _ _ ?_
    case sub => (repeat' first | exact List.forall_mem_nil _ | refine sub_cons (by k_mem) ?_ | (intro q hq; k_mem))
    case init => exact ⟨KtsTurn.refl, rfl, B, D, _, _, _, _, [(k1, ok1), (k2, ok2)], rfl, by assumption, ⟨_, by assumption⟩, .inr (.inr ⟨⟨_, _, _, _, rfl, rfl, K1, K2⟩, rfl⟩)⟩
    case E => first | passes_own | with_unfolding_all passes_own
    case hh => rfl
    case turn =>
      intro lv I i it b tb g' m' nw' h tk hin Hi
      have hb1 := (bsB_ok b hin).1
      have hb2 := (bsB_ok b hin).2.1
      have hb3 := (bsB_ok b hin).2.2
      clear hin
      refine InvB.full m' nw' Hi ?_
      clear Hi
      intro o1 o2 tt v0 KT B D ho2 ho1
      have X : (Mine.k.heap_1 w.params).In g' := XB.keeps B.stays
      have T := TB.keeps B.stays
      intro lI hne F N P
      refine CodeO.el K1 ?_
      intro vs1 t1 dk1 dk2
      (repeat (have hx9 := (off_cons hne).1; replace hne := (off_cons hne).2; dsimp only at hx9))
      have hc1 := ne_all K1 N (by k_mem) (.tail _ (.tail _ (.tail _ (.head _)))) ho1
      have hc2 := ne_all K2 N (by k_mem) (.tail _ (.tail _ (.tail _ (.head _)))) ho1
      (try ((show wpAny _ _ _ _ _ _); k_fold))
      k_steps
      rename_i f9 ct9 h9 tk9 F9 N9 l19
      have hd1 := ‹Obj.data _ = Data.cell (some (Value.str b tb))›
      refine' useO (d := 24) (u := 600) ?S ⟨_, _, _, _, .head _⟩ ?ret F9 N9 (XB := XB) (TB := TB) (C := C)
      case S =>
        unfold SpecX KK PR
        k_fill
        intro loose mean mg mb dp un gd envs base g s R B X T hk hsz hp hd hu hret hexc
        refine' code_sepL T hk hsz hp (.head _) ⟨k1, ok1, _, _, rfl, (hp (k1, ok1) (by k_mem)).1, dk1, dk2⟩ ?hr ?hb ?hl ?_ ?z2 ?z3 ?z4 ?z5
        case hr => exact room_0 (by assumption)
        case hb => rfl
        case hl => exact locs rfl
        case z5 => decide
        case z2 => rfl
        case z3 => rfl
        case z4 => rfl
        intro L' h' mp F' N' ev Ar Mo
        (try dsimp only)
        (try ((show wpAny _ _ _ _ _ _); k_fold))
        k_steps
        refine' spec_useX (readq_bad w x b _ _ _ _ hx ha hb1 hb2 hb3) ?x1 ?x2 ?x3 ?x4 ?x5 ?y1 ?y2 ?y3 ?y4 ?y7 ?y8 (fun _ _ _ _ _ _ _ h => h.elim) ?_
        case x2 => k_asm
        case x4 => k_asm
        case x1 => k_asm
        case x3 => k_asm
        case x5 => k_asm
        case y1 => rfl
        case y2 => rfl
        case y3 => rfl
        case y4 => rfl
        case y7 => k_room
        case y8 => k_room
        intro e' g2' h2' tk2' FG2 R2 U2 _
        (try dsimp only)
        refine leave_onX B rfl rfl FG2 R2 U2 ?_
        intro h3' R3 U3
        exact hexc _ _ _ R3 U3 trivial
      case ret =>
        intro h' tk' g₂ KT₂ F₂ N₃ B₂ D₂ 
        have X₂ : (Mine.k.heap_1 w.params).In g₂ := XB.keeps B₂.stays
        have T₂ := TB.keeps B₂.stays
        (try simp only [Array.empty_append, tab1, tab_app] at N₃)
        k_steps
        refine EndG.mk [(_, _), (_, _), (179, tabObj (tab2 k1 k2)), (k1, ok1), (k2, ok2)] (by assumption) (by assumption) (by k_mem) (by k_mem) ?sub ?ne ⟨KT.trans KT₂, rfl, by assumption, by assumption, _, _, _, _, _, rfl, ho2, ⟨_, hd1⟩, .inr (.inr ⟨⟨_, _, _, _, rfl, rfl, K1, K2⟩, rfl⟩)⟩
        case sub => (repeat' first | exact List.forall_mem_nil _ | refine sub_cons (by k_mem) ?_ | (intro q hq; k_mem))
        case ne => (repeat' first | exact List.forall_mem_nil _ | assumption | refine ne_cons (by k_ne) ?_)
    case fin =>
      intro g' m' nw' h tk Hi
      refine InvB.full m' nw' Hi ?_
      clear Hi
      intro o1 o2 tt v0 KT B D ho2 ho1 F N
      have X : (Mine.k.heap_1 w.params).In g' := XB.keeps B.stays
      have T := TB.keeps B.stays
      refine CodeO.el K2 ?_
      intro vs1 t1 dk1 dk2
      (try ((show wpAny _ _ _ _ _ _); k_fold))
      k_steps
      rename_i f9 ct9 h9 tk9 F9 N9 l19
      refine' useO (d := 24) (u := 600) ?S ⟨_, _, _, _, .head _⟩ ?ret F9 N9 (XB := XB) (TB := TB) (C := C)
      case S =>
        unfold SpecX KK PR
        k_fill
        intro loose mean mg mb dp un gd envs base g s R B X T hk hsz hp hd hu hret hexc
        refine' code_sepL T hk hsz hp (.head _) ⟨k2, ok2, _, _, rfl, (hp (k2, ok2) (by k_mem)).1, dk1, dk2⟩ ?hr ?hb ?hl ?_ ?z2 ?z3 ?z4 ?z5
        case hr => exact room_0 (by assumption)
        case hb => rfl
        case hl => exact locs rfl
        case z5 => decide
        case z2 => rfl
        case z3 => rfl
        case z4 => rfl
        intro L' h' mp F' N' ev Ar Mo
        (try dsimp only)
        (try ((show wpAny _ _ _ _ _ _); k_fold))
        k_steps
        refine' spec_useX (words_bad w x _ _ _ hx ha) ?x1 ?x2 ?x3 ?x4 ?x5 ?y1 ?y2 ?y3 ?y4 ?y7 ?y8 (fun _ _ _ _ _ _ _ h => h.elim) ?_
        case x2 => k_asm
        case x4 => k_asm
        case x1 => k_asm
        case x3 => k_asm
        case x5 => k_asm
        case y1 => rfl
        case y2 => rfl
        case y3 => rfl
        case y4 => rfl
        case y7 => k_room
        case y8 => k_room
        intro e' g2' h2' tk2' FG2 R2 U2 _
        (try dsimp only)
        refine leave_onX B rfl rfl FG2 R2 U2 ?_
        intro h3' R3 U3
        exact hexc _ _ _ R3 U3 trivial
      case ret =>
        intro h' tk' g₂ KT₂ F₂ N₃ B₂ D₂ 
        have X₂ : (Mine.k.heap_1 w.params).In g₂ := XB.keeps B₂.stays
        have T₂ := TB.keeps B₂.stays
        (try simp only [Array.empty_append, tab1, tab_app] at N₃)
        k_steps
        (try dsimp only)
        (try k_unfold)
        (try dsimp only)
        exact hret _ [(179, tabObj (tab2 k1 k2))] [] _ _ g₂ (KT.trans KT₂) (Fr.keep F₂) (out_news N₃ (by simp only [List.nil_append, List.cons_append, List.append_nil]; (repeat' first | exact List.forall_mem_nil _ | refine sub_cons (by k_mem) ?_ | (intro q hq; k_mem)))) (fun _ h => nomatch h) ⟨rfl, _, _, rfl, ⟨_, _, _, _, rfl, rfl, K1, K2⟩, (fun p h => h), fun _ h => nomatch h⟩
end
section
open PySem.Builtin
theorem zip_no_len : typeLookup (.type "zip") "__len__" = pure none := by rw [typeLookup_type, builtinLookup_eq_fast]; kernel_rfl
theorem zip_no_hint : typeLookup (.type "zip") "__length_hint__" = pure none := by rw [typeLookup_type, builtinLookup_eq_fast]; kernel_rfl
section
variable {M : Model} {A : Around} {E : Value → Shared → Prop} {s : Shared}
theorem wpAny_alive {a : Addr} {Q : Option Obj → Shared → Prop} (h : Q (s.heap.get? a) s) : wpAny M A (loadIfAlive a) Q E s := fun Γ p _ => by
  unfold loadIfAlive
  rw [Sem.wp_loadIfAlive]
  exact h
end
abbrev ZipO (h : Heap) (z TI TO : Addr) (f0 : Value) (f1 : Bool) : Prop :=
  h.get? z = some { cls := .type "zip", dict := none, data := .fields #[f0, .bool f1, .bool false, .ref TI, .ref TO], slots := #[] }
section
variable {prog : Program} {w : World} {A : Around} {E : Value → Shared → Prop} {s : Shared}
theorem owned_alive {z TI TO T : Addr} {f1 : Bool} {oT : Obj} {Q : Bool → Shared → Prop} (hz : ZipO s.heap z TI TO (rawInt T) f1) (hT : s.heap.get? T = some oT)
    (h : ∀ h', ZipO h' z TI TO (rawInt T) true → Heap.SameBut z s.heap h' → Q false { s with heap := h' }) : wpAny (model prog w) A (SmallTypes.ownedTupleIsFree (.ref z)) Q E s := by
  unfold SmallTypes.ownedTupleIsFree
  refine wpAny_bind (wpAny_field hz rfl (x := rawInt T) rfl ?_)
  show wpAny _ _ (loadIfAlive ((T : Int).toNat) >>= _) _ _ _
  refine wpAny_bind (wpAny_alive ?_)
  rw [show ((T : Int).toNat : Addr) = T from Int.toNat_natCast T, hT]
  simp only [Option.isNone_some, Bool.false_eq_true, if_false]
  refine wpAny_bind (wpAny_field hz rfl (x := .bool f1) rfl ?_)
  cases f1 with
  | true =>
    simp only [bne_self_eq_false, Bool.false_eq_true, if_false]
    exact wpAny_pure (h s.heap hz ⟨rfl, fun _ _ => rfl⟩)
  | false =>
    have e : (Value.bool false != Value.bool true) = true := by decide
    simp only [e, if_true]
    refine wpAny_bind (wpAny_setField_rec hz (by simp) fun h₁ hz₁ hs₁ => wpAny_pure ?_)
    exact h h₁ hz₁ hs₁
theorem zip_next_alive {z TI TO T i1 i2 l1 l2 : Addr} {f1 : Bool} {oT : Obj} {k1 k2 : Nat} {xs ys : Array Value} {x y : Value} {Q : Value → Shared → Prop} (D : ZipApart z TI TO i1 i2 l1 l2)
    (hz : ZipO s.heap z TI TO (rawInt T) f1) (hT : s.heap.get? T = some oT) (hTI : IsPair s.heap TI (.ref i1) (.ref i2))
    (h1 : s.heap.IsListIter i1 l1 k1) (h2 : s.heap.IsListIter i2 l2 k2) (hl1 : s.heap.IsList l1 xs) (hl2 : s.heap.IsList l2 ys) (hx : xs[k1]? = some x) (hy : ys[k2]? = some y)
    (hQ : ∀ h', ZipO h' z TI TO (rawInt T) true → h'.IsListIter i1 l1 (k1 + 1) → h'.IsListIter i2 l2 (k2 + 1) → IsPair h' s.heap.objs.size x y →
      (∀ c o, c ≠ z → c ≠ i1 → c ≠ i2 → s.heap.get? c = some o → h'.get? c = some o) → Q (.ref s.heap.objs.size) { s with heap := h' }) :
    wpAny (model prog w) A (Builtin.«zip.__next__» ⟨[.ref z], []⟩) (fun fin s' => ∃ v, fin = .done (.ret v) ∧ Q v s') E s := by
  show wpAny _ _ (field (.ref z) 2 >>= _) _ _ _
  refine wpAny_bind (wpAny_field hz rfl (x := .bool false) rfl ?_)
  show wpAny _ _ (field (.ref z) 3 >>= _) _ _ _
  refine wpAny_bind (wpAny_field hz rfl (x := .ref TI) rfl ?_)
  refine wpAny_bind (wpAny_seqItems hTI rfl ?_)
  show wpAny _ _ (SmallTypes.ownedTupleIsFree (.ref z) >>= _) _ _ _
  refine wpAny_bind (owned_alive hz hT fun h₁ hz₁ hs₁ => ?_)
  simp only [Bool.false_eq_true, if_false, List.forIn_toArray, List.forIn_cons, List.forIn_nil]
  refine wpAny_bind ?_
  refine wpAny_bind (wpAny_bind (wpAny_holding ?_))
  show wpAny _ _ (SmallTypes.nextOf (.ref i1) >>= _) _ _ _
  refine wpAny_bind (wpAny_nextOf_list_item (h1.extBut hs₁.extBut D.i1z) (hl1.extBut hs₁.extBut D.l1z) hx fun h₂ h1₂ hs₂ => wpAny_pure ?_)
  simp only []
  refine wpAny_pure ?_
  simp only []
  refine wpAny_bind (wpAny_bind (wpAny_holding ?_))
  show wpAny _ _ (SmallTypes.nextOf (.ref i2) >>= _) _ _ _
  refine wpAny_bind (wpAny_nextOf_list_item ((h2.extBut hs₁.extBut D.i2z).extBut hs₂.extBut D.i12.symm) ((hl2.extBut hs₁.extBut D.l2z).extBut hs₂.extBut D.l2i1) hy fun h₃ h2₃ hs₃ => wpAny_pure ?_)
  simp only []
  refine wpAny_pure ?_
  simp only []
  refine wpAny_pure ?_
  simp only []
  refine wpAny_bind (wpAny_newTuple (hsz := by show 2 ≤ sizeLine; rw [sizeLine_eq]; decide) ?_)
  have hsz : h₃.objs.size = s.heap.objs.size := by rw [hs₃.1, hs₂.1, hs₁.1]
  rw [hsz]
  refine wpAny_pure ⟨_, rfl, ?_⟩
  have up : ∀ c o, c ≠ z → c ≠ i1 → c ≠ i2 → s.heap.get? c = some o → (h₃.push { cls := .type "tuple", data := .seq #[x, y] }).get? c = some o := fun c o c1 c2 c3 e => Heap.get?_push_of_some _ (hs₃.extBut _ _ c3 (hs₂.extBut _ _ c2 (hs₁.extBut _ _ c1 e)))
  refine hQ (h₃.push { cls := .type "tuple", data := .seq #[x, y] }) ?_ ?_ ?_ ?_ up
  · exact Heap.get?_push_of_some _ (hs₃.extBut _ _ D.i2z.symm (hs₂.extBut _ _ D.i1z.symm hz₁))
  · exact (h1₂.extBut hs₃.extBut D.i12).at fun o e => Heap.get?_push_of_some _ e
  · exact h2₃.at fun o e => Heap.get?_push_of_some _ e
  · have := Heap.get?_push_size h₃ (o := { cls := .type "tuple", data := .seq #[x, y] }) rfl
    rw [hsz] at this
    exact this
theorem zip_end_alive {z TI TO T i1 i2 l1 l2 : Addr} {f1 : Bool} {oT : Obj} {k1 : Nat} {xs : Array Value} {Q : PySem.Fin → Shared → Prop} (hh : A.handled = none) (D : ZipApart z TI TO i1 i2 l1 l2)
    (hz : ZipO s.heap z TI TO (rawInt T) f1) (hT : s.heap.get? T = some oT) (hTI : IsPair s.heap TI (.ref i1) (.ref i2))
    (h1 : s.heap.IsListIter i1 l1 k1) (hl1 : s.heap.IsList l1 xs) (hx : xs[k1]? = none)
    (hE : ∀ h' e, (∀ c o, c ≠ z → c ≠ i1 → s.heap.get? c = some o → h'.get? c = some o) → (∃ o, h'.get? e = some o ∧ o.cls = .type "StopIteration") → E (.ref e) { s with heap := h' }) :
    wpAny (model prog w) A (Builtin.«zip.__next__» ⟨[.ref z], []⟩) Q E s := by
  show wpAny _ _ (field (.ref z) 2 >>= _) _ _ _
  refine wpAny_bind (wpAny_field hz rfl (x := .bool false) rfl ?_)
  show wpAny _ _ (field (.ref z) 3 >>= _) _ _ _
  refine wpAny_bind (wpAny_field hz rfl (x := .ref TI) rfl ?_)
  refine wpAny_bind (wpAny_seqItems hTI rfl ?_)
  show wpAny _ _ (SmallTypes.ownedTupleIsFree (.ref z) >>= _) _ _ _
  refine wpAny_bind (owned_alive hz hT fun h₁ hz₁ hs₁ => ?_)
  simp only [Bool.false_eq_true, if_false, List.forIn_toArray, List.forIn_cons, List.forIn_nil]
  refine wpAny_bind ?_
  refine wpAny_bind (wpAny_bind (wpAny_holding ?_))
  show wpAny _ _ (SmallTypes.nextOf (.ref i1) >>= _) _ _ _
  refine wpAny_bind (wpAny_nextOf_list_end hh (h1.extBut hs₁.extBut D.i1z) (hl1.extBut hs₁.extBut D.l1z) hx fun h₂ e hs₂ he => ?_)
  exact hE h₂ e (fun c o c1 c2 x => hs₂ _ _ c2 (hs₁.extBut _ _ c1 x)) he
/-- how far a zip over two lists has come -/
def ZS (z TI TO i1 i2 l1 l2 : Addr) (xs ys : Array Value) (i : Nat) (h : Heap) : Prop :=
  (∃ f0 f1, ZipO h z TI TO f0 f1 ∧ ((f0 = .none ∧ f1 = false) ∨ ∃ (T : Addr) (o : Obj), f0 = rawInt T ∧ h.get? T = some o ∧ T ≠ z ∧ T ≠ i1 ∧ T ≠ i2)) ∧ IsPair h TI (.ref i1) (.ref i2) ∧ (∃ a b, IsPair h TO a b) ∧ h.IsListIter i1 l1 i ∧ h.IsListIter i2 l2 i ∧ h.IsList l1 xs ∧ h.IsList l2 ys
theorem znext {z TI TO i1 i2 l1 l2 : Addr} {i : Nat} {xs ys : Array Value} {x y : Value} {Q : Option Value → Shared → Prop} (D : ZipApart z TI TO i1 i2 l1 l2) (Z : ZS z TI TO i1 i2 l1 l2 xs ys i s.heap) (hx : xs[i]? = some x) (hy : ys[i]? = some y)
    (hQ : ∀ h', ZS z TI TO i1 i2 l1 l2 xs ys (i + 1) h' → IsPair h' s.heap.objs.size x y → (∀ c o, c ≠ z → c ≠ TO → c ≠ i1 → c ≠ i2 → s.heap.get? c = some o → h'.get? c = some o) → Q (some (.ref s.heap.objs.size)) { s with heap := h' }) :
    wpAny (model prog w) A (pyNext (.ref z)) Q E s := by
  obtain ⟨⟨f0, f1, hz, hf⟩, hTI, ⟨a, b, hTO⟩, h1, h2, hl1, hl2⟩ := Z
  have nz : s.heap.objs.size ≠ z := Nat.ne_of_gt (Heap.lt_size hz)
  have n1 : s.heap.objs.size ≠ i1 := by obtain ⟨_, e, _⟩ := h1; exact Nat.ne_of_gt (Heap.lt_size e)
  have n2 : s.heap.objs.size ≠ i2 := by obtain ⟨_, e, _⟩ := h2; exact Nat.ne_of_gt (Heap.lt_size e)
  rcases hf with ⟨rfl, rfl⟩ | ⟨T, o, rfl, hT, hTz, hT1, hT2⟩
  · refine wpAny_pyNext_zip_item D hz hTI hTO h1 h2 hl1 hl2 hx hy fun h' a1 a2 a3 a4 a5 a6 hk => ?_
    exact hQ h' ⟨⟨_, _, a1, .inr ⟨_, _, rfl, a5, nz, n1, n2⟩⟩, hk _ _ D.TIz D.TITO D.TIi1 D.TIi2 hTI, ⟨_, _, a2⟩, a3, a4, hl1.at fun o e => hk _ o D.l1z D.l1TO D.l1i1 D.l1i2 e, hl2.at fun o e => hk _ o D.l2z D.l2TO D.l2i1 D.l2i2 e⟩ a5 hk
  · have hty : s.TypeIs (.ref z) "zip" := ⟨_, hz, rfl⟩
    unfold pyNext
    refine wpAny_bind (wpAny_attempt (wpAny_callSpecial?_slot (name := Str.ofString "__next__") hty F.slot_zip_next
      (wpAny_call_entry F.slot_zip_next hty F.entry_zip_next
        (zip_next_alive D hz hT hTI h1 h2 hl1 hl2 hx hy fun h' a1 a3 a4 a5 hk => ?_) (F.args_zip_next_1 _))))
    refine wpAny_pure (hQ h' ⟨⟨_, _, a1, .inr ⟨T, _, rfl, hk _ _ hTz hT1 hT2 hT, hTz, hT1, hT2⟩⟩, hk _ _ D.TIz D.TIi1 D.TIi2 hTI, ⟨_, _, hk _ _ D.TOz D.TOi1 D.TOi2 hTO⟩, a3, a4, hl1.at fun o e => hk _ o D.l1z D.l1i1 D.l1i2 e, hl2.at fun o e => hk _ o D.l2z D.l2i1 D.l2i2 e⟩ a5 fun c o c1 _ c3 c4 e => hk c o c1 c3 c4 e)
theorem zdone {z TI TO i1 i2 l1 l2 : Addr} {i : Nat} {xs ys : Array Value} {Q : Option Value → Shared → Prop} (hh : A.handled = none) (D : ZipApart z TI TO i1 i2 l1 l2) (Z : ZS z TI TO i1 i2 l1 l2 xs ys i s.heap) (hx : xs[i]? = none)
    (hQ : ∀ h', (∀ c o, c ≠ z → c ≠ TO → c ≠ i1 → c ≠ i2 → s.heap.get? c = some o → h'.get? c = some o) → Q none { s with heap := h' }) :
    wpAny (model prog w) A (pyNext (.ref z)) Q E s := by
  obtain ⟨⟨f0, f1, hz, hf⟩, hTI, ⟨a, b, hTO⟩, h1, h2, hl1, hl2⟩ := Z
  rcases hf with ⟨rfl, rfl⟩ | ⟨T, o, rfl, hT, hTz, hT1, hT2⟩
  · exact wpAny_pyNext_zip_end hh D hz hTI hTO h1 h2 hl1 hl2 (.inl hx) hQ
  · have hty : s.TypeIs (.ref z) "zip" := ⟨_, hz, rfl⟩
    unfold pyNext
    refine wpAny_bind (wpAny_attempt (wpAny_callSpecial?_slot (name := Str.ofString "__next__") hty F.slot_zip_next
      (wpAny_call_entry F.slot_zip_next hty F.entry_zip_next (zip_end_alive hh D hz hT hTI h1 hl1 hx fun h' e hk he => ?_) (F.args_zip_next_1 _))))
    obtain ⟨o, ho, hc⟩ := he
    refine wpAny_bind (wpAny_isInstance (T := "StopIteration") (b := true) ⟨o, ho, hc⟩ isSubtype_stop ?_)
    exact wpAny_pure (hQ _ fun c o c1 _ c3 _ e => hk c o c1 c3 e)
/-- the pairs made so far -/
def TS (Ts : List Addr) (xs ys : Array Value) (h : Heap) : Prop := ∀ (j : Nat) (T : Addr), Ts[j]? = some T → ∃ x y, xs[j]? = some x ∧ ys[j]? = some y ∧ IsPair h T x y
end
section
variable {prog : Program} {w : World} {A : Around} {R : Result → Shared → Prop}
theorem lt_ne {n0 : Nat} {a c : Addr} (h1 : a < n0) (h2 : n0 ≤ c) : c ≠ a := fun q => by subst q; exact Nat.lt_irrefl _ (Nat.lt_of_lt_of_le h1 h2)
/-- the loop of list(zip(..)) -/
theorem zip_loop {z TI TO i1 i2 l1 l2 S : Addr} {xs ys : Array Value} (n0 : Nat) (h₀ : Heap) (hh : A.handled = none) (D : ZipApart z TI TO i1 i2 l1 l2) (hxy : xs.size = ys.size) (hn : xs.size ≤ 10000) (res : Value)
    (hS0 : S ≠ z ∧ S ≠ TI ∧ S ≠ TO ∧ S ≠ i1 ∧ S ≠ i2 ∧ S ≠ l1 ∧ S ≠ l2) (hSn : S < n0) :
    ∀ (k i : Nat) (s : Shared) (Ts : List Addr) (c : Nat), xs.size - i = k → i ≤ xs.size → ZS z TI TO i1 i2 l1 l2 xs ys i s.heap → s.heap.get? S = some { cls := .type "list", dict := none, data := .seq (Ts.map Value.ref).toArray c, slots := #[] } → Ts.length = i →
    TS Ts xs ys s.heap → (∀ T ∈ Ts, n0 ≤ T) → n0 ≤ s.heap.objs.size → (∀ b o, b < n0 → b ≠ S → b ≠ z → b ≠ TO → b ≠ i1 → b ≠ i2 → h₀.get? b = some o → s.heap.get? b = some o) → (z < n0 ∧ TO < n0 ∧ i1 < n0 ∧ i2 < n0) →
    (∀ h' Ts' c', h'.get? S = some { cls := .type "list", dict := none, data := .seq (Ts'.map Value.ref).toArray c', slots := #[] } → Ts'.length = xs.size → TS Ts' xs ys h' → (∀ T ∈ Ts', n0 ≤ T) → (∀ b o, b < n0 → b ≠ S → b ≠ z → b ≠ TO → b ≠ i1 → b ≠ i2 → h₀.get? b = some o → h'.get? b = some o) → R (.ok (.ret res)) { s with heap := h' }) →
    codeAny (model prog w) A (.builtin "list.extend.loop" ⟨[.ref S, .ref z, res], []⟩) R s := by
  intro k
  induction k with
  | zero =>
    intro i s Ts c hk hi hst hS hlen hTS hT hsz hkeep hz0 hR
    have hin : i = xs.size := by omega
    subst hin
    refine codeAny_builtin PySem.F.entry_extend_loop ?_
    rw [Around.under_plainId PySem.F.plain_extend_loop _]
    show wpAny _ A.in1 (pyNext (.ref z) >>= _) _ _ s
    refine wpAny_bind (zdone (by exact hh) D hst (by simp) fun h' hk' => ?_)
    have up : ∀ c o, n0 ≤ c → s.heap.get? c = some o → h'.get? c = some o := fun c o hc e => hk' c o (lt_ne hz0.1 hc) (lt_ne hz0.2.1 hc) (lt_ne hz0.2.2.1 hc) (lt_ne hz0.2.2.2 hc) e
    refine wpAny_pure (hR h' Ts c (hk' S _ hS0.1 hS0.2.2.1 hS0.2.2.2.1 hS0.2.2.2.2.1 hS) hlen (fun j T hj => ?_) hT fun b o hb c1 c2 c3 c4 c5 e => hk' b o c2 c3 c4 c5 (hkeep b o hb c1 c2 c3 c4 c5 e))
    obtain ⟨x, y, e1, e2, e3⟩ := hTS j T hj
    exact ⟨x, y, e1, e2, up T _ (hT T (List.mem_of_getElem? hj)) e3⟩
  | succ k ih =>
    intro i s Ts c hk hi hst hS hlen hTS hT hsz hkeep hz0 hR
    have hlt : i < xs.size := by omega
    refine codeAny_builtin PySem.F.entry_extend_loop ?_
    rw [Around.under_plainId PySem.F.plain_extend_loop _]
    show wpAny _ A.in1 (pyNext (.ref z) >>= _) _ _ s
    refine wpAny_bind (znext D hst (Array.getElem?_eq_getElem hlt) (Array.getElem?_eq_getElem (by omega)) fun h' hst' hp hk' => ?_)
    have up : ∀ c o, n0 ≤ c → s.heap.get? c = some o → h'.get? c = some o := fun c o hc e => hk' c o (lt_ne hz0.1 hc) (lt_ne hz0.2.1 hc) (lt_ne hz0.2.2.1 hc) (lt_ne hz0.2.2.2 hc) e
    have hS' := hk' S _ hS0.1 hS0.2.2.1 hS0.2.2.2.1 hS0.2.2.2.2.1 hS
    have hszl : s.heap.objs.size < h'.objs.size := Heap.lt_size hp
    show wpAny _ A.in1 (updateSeq S (·.push (.ref s.heap.objs.size)) >>= _) _ _ _
    refine wpAny_bind ?_
    have hsi : (Ts.map Value.ref).toArray.size = i := by simp [hlen]
    have hlen2 : ((Ts.map Value.ref).toArray.push (.ref s.heap.objs.size)) = ((Ts ++ [s.heap.objs.size]).map Value.ref).toArray := by simp
    have ne : ∀ c, c ≠ S → ∀ o, h'.get? c = some o → (h'.update S (Obj.mapSeq (·.push (.ref s.heap.objs.size)))).get? c = some o := fun c hc o e => (Heap.get?_update_other _ _ (Ne.symm hc)).trans e
    have zTI := hst'.2.1
    obtain ⟨za, zb, zTO⟩ := hst'.2.2.1
    have zi1 := hst'.2.2.2.1
    have zi2 := hst'.2.2.2.2.1
    have zl1 := hst'.2.2.2.2.2.1
    have zl2 := hst'.2.2.2.2.2.2
    obtain ⟨f0, f1, z1, z2⟩ := hst'.1
    clear hst'
    have hfresh : s.heap.objs.size ≠ S := Nat.ne_of_gt (Heap.lt_size hS)
    refine wpAny_updateSeq hS' rfl (wpAny_pure ⟨plainId_quiet PySem.F.plain_extend_loop _, ih (i + 1) _ (Ts ++ [s.heap.objs.size]) (c + 1) (by omega) hlt ?_ ?_ (by simp [hlen]) ?_ ?_ ?_ ?_ hz0 ?_⟩) (by rw [hsi, sizeLine_eq]; omega) (by show ((Ts.map Value.ref).toArray.push _).size ≤ sizeLine + 1; rw [Array.size_push, hsi, sizeLine_eq]; omega)
    · refine ⟨⟨f0, f1, ne _ (Ne.symm hS0.1) _ z1, ?_⟩, ne _ (Ne.symm hS0.2.1) _ zTI, ⟨za, zb, ne _ (Ne.symm hS0.2.2.1) _ zTO⟩, zi1.at fun o e => ne _ (Ne.symm hS0.2.2.2.1) o e, zi2.at fun o e => ne _ (Ne.symm hS0.2.2.2.2.1) o e, zl1.at fun o e => ne _ (Ne.symm hS0.2.2.2.2.2.1) o e, zl2.at fun o e => ne _ (Ne.symm hS0.2.2.2.2.2.2) o e⟩
      rcases z2 with z2 | ⟨T, o, t1, t2, t3, t4, t5⟩
      · exact .inl z2
      · by_cases hTS' : T = S
        · subst hTS'; exact .inr ⟨T, _, t1, Heap.get?_update_self _ hS' rfl, t3, t4, t5⟩
        · exact .inr ⟨T, o, t1, ne _ hTS' _ t2, t3, t4, t5⟩
    · refine (Heap.get?_update_self _ hS' rfl).trans ?_
      simp [Obj.mapSeq]
    · intro j T hj
      rw [List.getElem?_append] at hj
      split at hj
      · obtain ⟨x, y, e1, e2, e3⟩ := hTS j T hj
        have hTn := hT T (List.mem_of_getElem? hj)
        exact ⟨x, y, e1, e2, ne _ (lt_ne hSn hTn) _ (up T _ hTn e3)⟩
      · rename_i hj2
        have hj3 : j = i := by
          have := (List.getElem?_eq_some_iff.mp hj).1
          simp at this
          omega
        subst hj3
        rw [hlen, Nat.sub_self] at hj
        cases hj
        exact ⟨_, _, Array.getElem?_eq_getElem hlt, Array.getElem?_eq_getElem (by omega), ne _ hfresh _ hp⟩
    · intro T hTm
      rcases List.mem_append.mp hTm with h1 | h1
      · exact hT T h1
      · rw [List.mem_singleton.mp h1]; exact hsz
    · show n0 ≤ (h'.update S _).objs.size
      rw [Heap.size_update]
      omega
    · intro b o hb c1 c2 c3 c4 c5 e
      exact ne b c1 o (hk' b o c2 c3 c4 c5 (hkeep b o hb c1 c2 c3 c4 c5 e))
    · intro h'' Ts' c' a1 a2 a3 a4 a5
      exact hR h'' Ts' c' a1 a2 a3 a4 a5
end
end
section
open PySem.Builtin
theorem tups_of {h : Heap} {n0 : Nat} : ∀ {Ts : List Addr} {vx vy : List Value} {fs ls : List Int}, IntsAre vx fs → IntsAre vy ls → Ts.length = vx.length → vx.length = vy.length → TS Ts vx.toArray vy.toArray h → (∀ T ∈ Ts, n0 ≤ T) →
    ∃ tl : Led, TupsL tl (Ts.map Value.ref) ((fs.zip ls).map pairD) ∧ ∀ p ∈ tl, h.get? p.1 = some p.2 ∧ n0 ≤ p.1
  | [], _, _, _, _, .nil, .nil, _, _, _, _ => ⟨[], .nil, fun _ h => nomatch h⟩
  | T :: Ts, _, _, _, _, .cons (vs := vx) n t hx, .cons (vs := vy) m u hy, h1, h2, hS, hT => by
    obtain ⟨tl, t1, t2⟩ := tups_of (n0 := n0) (Ts := Ts) hx hy (by simpa using h1) (by simpa using h2) (fun j T' hj => by
      obtain ⟨x, y, e1, e2, e3⟩ := hS (j + 1) T' (by simpa using hj)
      exact ⟨x, y, by simpa using e1, by simpa using e2, e3⟩) fun T' hT' => hT T' (.tail _ hT')
    obtain ⟨x, y, e1, e2, e3⟩ := hS 0 T rfl
    have e1 : Value.int n t = x := by simpa using e1
    have e2 : Value.int m u = y := by simpa using e2
    subst e1 e2
    refine ⟨(T, tupO [.int n t, .int m u]) :: tl, ?_, fun p hp => ?_⟩
    · exact .cons (.head _) (.cons (.int _ _) (.cons (.int _ _) .nil)) (t1.mono fun p hp => .tail _ hp)
    · rcases List.mem_cons.mp hp with rfl | hp
      · exact ⟨e3, hT T (.head _)⟩
      · exact t2 p hp
  | [], _, _, _, _, .cons _ _ _, _, h, _, _, _ => by simp at h
  | _ :: _, _, _, _, _, .nil, _, h, _, _, _ => by simp at h
  | _ :: _, _, _, _, _, .cons _ _ _, .nil, _, h, _, _ => by simp at h
  | [], _, _, _, _, .nil, .cons _ _ _, _, h, _, _ => by simp at h
structure ZipReady (h₀ : Heap) (L : Addr) (led : Led) (z a b : Addr) (vx vy : List Value) (h : Heap) : Prop where
  ex : ∃ TI TO i1 i2, ZipApart z TI TO i1 i2 a b ∧ IsZip h z TI TO .none ∧ ZS z TI TO i1 i2 a b vx.toArray vy.toArray 0 h ∧ ∀ c, (c = z ∨ c = TO ∨ c = i1 ∨ c = i2) → c ≠ L ∧ h₀.get? c = none ∧ ∀ p ∈ led, p.1 ≠ c
section
variable {prog : Program} {w : World} {A : Around} {E : Value → Shared → Prop} {s : Shared} {h₀ : Heap} {L : Addr} {m : Str → Option Value} {led : Led}
theorem zipK {a b : Addr} {vx vy : List Value} {ka kb : Nat} {Q : Value → Shared → Prop} (F : Fr h₀ L s.heap m := by k_asm) (N : News h₀ L s.heap led := by k_asm) (ha : (a, listO vx ka) ∈ led := by k_mem) (hb : (b, listO vy kb) ∈ led := by k_mem)
    (h : ∀ z h', Fr h₀ L h' m → News h₀ L h' led → ZipReady h₀ L led z a b vx vy h' → Q (.ref z) { s with heap := h' }) : wpAny (model prog w) A (call (.type "zip") [.ref a, .ref b]) Q E s := by
  have la : a < s.heap.objs.size := Heap.lt_size (N _ ha).1
  have lb : b < s.heap.objs.size := Heap.lt_size (N _ hb).1
  refine call_zip_2 (N.isList ha) (N.isList hb) fun h' hz hTI hTO hi1 hi2 _ hk => ?_
  have key : ∀ c, s.heap.objs.size ≤ c → c ≠ L ∧ h₀.get? c = none ∧ ∀ p ∈ led, p.1 ≠ c := fun c hc => by
    refine ⟨lt_ne F.ns.lt hc, ?_, fun p hp => Ne.symm (lt_ne (Heap.lt_size (N p hp).1) hc)⟩
    cases q : h₀.get? c with
    | none => rfl
    | some o => exact absurd (Nat.lt_of_lt_of_le (Heap.lt_size (F.keep _ _ q)) hc) (Nat.lt_irrefl _)
  refine h _ h' (F.keeps hk) (N.grown hk) ⟨_, _, _, _, zipApart_new la lb, hz, ⟨⟨_, _, hz, .inl ⟨rfl, rfl⟩⟩, hTI, ⟨_, _, hTO⟩, hi1, hi2, Heap.IsList.at (N.isList ha) (fun o e => hk _ o e), Heap.IsList.at (N.isList hb) (fun o e => hk _ o e)⟩, fun c hc => ?_⟩
  rcases hc with rfl | rfl | rfl | rfl
  · exact key _ (Nat.le_add_right _ 4)
  · exact key _ (Nat.le_add_right _ 3)
  · exact key _ (Nat.le_refl _)
  · exact key _ (Nat.le_add_right _ 1)
theorem list_zipK {z a b : Addr} {vx vy : List Value} {fs ls : List Int} {ka kb : Nat} {Q : Value → Shared → Prop} (hh : A.handled = none) (F : Fr h₀ L s.heap m) (N : News h₀ L s.heap led) (Z : ZipReady h₀ L led z a b vx vy s.heap)
    (ha : (a, listO vx ka) ∈ led) (hb : (b, listO vy kb) ∈ led) (hx : IntsAre vx fs) (hy : IntsAre vy ls) (hl : vx.length = vy.length) (hn : vx.length ≤ 1000)
    (h : ∀ D c refs tl h', Fr h₀ L h' m → News h₀ L h' ((D, listO refs c) :: (led ++ tl)) → TupsL tl refs ((fs.zip ls).map pairD) → (∀ p ∈ tl, @Ne Nat p.1 D) → (∀ p ∈ led, @LT.lt Nat _ p.1 D) → (∀ p ∈ tl, @LT.lt Nat _ D p.1) → Q (.ref D) { s with heap := h' }) :
    wpAny (model prog w) A (call (.type "list") [.ref z]) Q E s := by
  obtain ⟨TI, TO, i1, i2, D, hz, Z, hoff⟩ := Z
  have Z0 := Z
  obtain ⟨⟨f0, f1, _, hf⟩, hTI, ⟨za, zb, hTO⟩, h1, h2, hl1, hl2⟩ := Z0
  obtain ⟨_, e1, _⟩ := id h1
  obtain ⟨_, e2, _⟩ := id h2
  have lz := Heap.lt_size hz
  have lTI := Heap.lt_size hTI
  have lTO := Heap.lt_size hTO
  have l1 := Heap.lt_size e1
  have l2 := Heap.lt_size e2
  have la := Heap.lt_size (N _ ha).1
  have lb := Heap.lt_size (N _ hb).1
  have hzl : z ≠ s.heap.objs.size := Nat.ne_of_lt lz
  refine callType_codes (Q₁ := fun obj s₁ => obj = .ref s.heap.objs.size ∧ s₁ = { s with heap := s.heap.push { cls := .type "list", data := .seq #[] } }) PySem.F.called_list (PySem.F.typeCall_list_1 _) PySem.F.entry_list_init
    (code_list_new _ ⟨rfl, rfl⟩) fun obj s₁ h₁ => ?_
  obtain ⟨rfl, rfl⟩ := h₁
  have hS : (s.heap.push { cls := .type "list", data := .seq #[] }).get? s.heap.objs.size = some { cls := .type "list", data := .seq #[] } := Heap.get?_push_size _ rfl
  refine ⟨⟨_, hS, rfl⟩, PySem.F.args_list_init_2 _ _, ?_⟩
  show wpAny _ A.in1.in1 (do let old ← Builtin.List.listItems (.ref s.heap.objs.size); Builtin.List.listUpdate (.ref s.heap.objs.size) (fun _ => #[]); letGo old.toList.reverse; Builtin.List.listExtendWith (.ref s.heap.objs.size) (.ref z) .none) _ _ _
  refine wpAny_bind ?_
  unfold Builtin.List.listItems
  refine wpAny_bind (wpAny_seqItems hS rfl (wpAny_pure ?_))
  show wpAny _ A.in1.in1 (updateSeq s.heap.objs.size (fun _ => #[]) >>= fun _ => letGo (#[] : Array Value).toList.reverse >>= fun _ => Builtin.List.listExtendWith (.ref s.heap.objs.size) (.ref z) .none) _ _ _
  refine wpAny_bind (wpAny_updateSeq hS rfl ?_)
  have hS₂ := Heap.get?_update_self (Obj.mapSeq (fun _ => (#[] : Array Value))) hS rfl
  refine wpAny_bind (wpAny_letGo ?_)
  unfold Builtin.List.listExtendWith
  have keep1 : ∀ c o, s.heap.get? c = some o → ((s.heap.push { cls := .type "list", data := .seq #[] }).update s.heap.objs.size (Obj.mapSeq fun _ => (#[] : Array Value))).get? c = some o := fun c o e =>
    (Heap.get?_update_other _ _ (Ne.symm (Nat.ne_of_lt (Heap.lt_size e)))).trans (Heap.get?_push_of_some _ e)
  have hty : Shared.TypeIs ({ s with heap := (s.heap.push { cls := .type "list", data := .seq #[] }).update s.heap.objs.size (Obj.mapSeq fun _ => (#[] : Array Value)) } : Shared) (.ref z) "zip" := ⟨_, keep1 _ _ hz, rfl⟩
  refine wpAny_bind (wpAny_typeOf hty ?_)
  have q1 : Builtin.List.listSameRef (.ref s.heap.objs.size) (.ref z) = false := by simp [Builtin.List.listSameRef, Ne.symm hzl]
  have q2 : (Value.type "zip" == Value.type "list") = false := by decide
  have q3 : (Value.type "zip" == Value.type "tuple") = false := by decide
  simp only [q1, q2, q3, Bool.or_false, Bool.false_eq_true, if_false]
  refine wpAny_bind (wpAny_pyIter_zip (keep1 _ _ hz) ?_)
  refine wpAny_bind (wpAny_holding ?_)
  unfold Builtin.List.listLengthHint
  refine wpAny_bind (wpAny_specialOf hty zip_no_len ?_)
  show wpAny _ A.in1.in1 (specialOf (Value.ref z) (Str.ofString "__length_hint__") >>= _) _ _ _
  refine wpAny_bind (wpAny_specialOf hty zip_no_hint ?_)
  refine wpAny_pure ?_
  show wpAny _ A.in1.in1 (rule "list.extend.makes-room" >>= fun _ => Builtin.List.listTouch (.ref s.heap.objs.size) >>= fun _ =>
    again (.builtin "list.extend.loop" ⟨[.ref s.heap.objs.size, .ref z, .none], []⟩)) _ _ _
  refine wpAny_bind (wpAny_rule ?_)
  refine wpAny_bind ?_
  show wpAny _ A.in1.in1 (updateSeq s.heap.objs.size (·.push .none) >>= fun _ => updateSeq s.heap.objs.size (·.pop)) _ _ _
  have sz : ∀ vs : Array Value, vs.size ≤ 1 → vs.size ≤ sizeLine := fun vs h => Nat.le_trans h (by rw [sizeLine_eq]; decide)
  refine wpAny_bind (wpAny_updateSeq hS₂ rfl ?_)
  have hS₃ := Heap.get?_update_self (Obj.mapSeq (·.push Value.none)) hS₂ rfl
  refine wpAny_updateSeq hS₃ rfl ?_
  have hS₄ := Heap.get?_update_self (Obj.mapSeq (·.pop)) hS₃ rfl
  generalize hH : (((s.heap.push { cls := .type "list", data := .seq #[] }).update s.heap.objs.size (Obj.mapSeq fun _ => (#[] : Array Value))).update s.heap.objs.size (Obj.mapSeq (·.push Value.none))).update s.heap.objs.size (Obj.mapSeq (·.pop)) = H at hS₄ ⊢
  have keep2 : ∀ c o, s.heap.get? c = some o → H.get? c = some o := fun c o e => by
    have hc := Ne.symm (Nat.ne_of_lt (Heap.lt_size e))
    rw [← hH]
    exact (Heap.get?_update_other _ _ hc).trans ((Heap.get?_update_other _ _ hc).trans (keep1 c o e))
  have hHs : H.objs.size = s.heap.objs.size + 1 := by rw [← hH, Heap.size_update, Heap.size_update, Heap.size_update, Heap.size_push]
  have hvx : vx.toArray.size = vx.length := by simp
  have hvy : vy.toArray.size = vy.length := by simp
  have ZH : ZS z TI TO i1 i2 a b vx.toArray vy.toArray 0 H := ⟨⟨_, _, keep2 _ _ hz, .inl ⟨rfl, rfl⟩⟩, keep2 _ _ hTI, ⟨_, _, keep2 _ _ hTO⟩, h1.at fun o e => keep2 _ o e, h2.at fun o e => keep2 _ o e, hl1.at fun o e => keep2 _ o e, hl2.at fun o e => keep2 _ o e⟩
  have bt : ∀ {c : Addr}, c < s.heap.objs.size → c < s.heap.objs.size + 1 := fun h => Nat.lt_succ_of_lt h
  refine wpAny_pure ⟨plainId_quiet PySem.F.plain_extend_loop _, ?_⟩
  refine zip_loop (s.heap.objs.size + 1) s.heap (by exact hh) D (by rw [hvx, hvy, hl]) (by rw [hvx]; omega) .none ⟨Nat.ne_of_gt lz, Nat.ne_of_gt lTI, Nat.ne_of_gt lTO, Nat.ne_of_gt l1, Nat.ne_of_gt l2, Nat.ne_of_gt la, Nat.ne_of_gt lb⟩ (Nat.lt_succ_self _) vx.toArray.size 0 _ [] _ (by omega) (Nat.zero_le _) ZH hS₄ rfl (fun j T h => by cases h) (fun _ h => nomatch h) (by show _ ≤ H.objs.size; rw [hHs]; exact Nat.le_refl _) (fun c o _ _ _ _ _ _ e => keep2 c o e) ⟨bt lz, bt lTO, bt l1, bt l2⟩ ?_
  intro h' Ts c hD hlen hTS hTn hkeep
  obtain ⟨tl, ht1, ht2⟩ := tups_of (n0 := s.heap.objs.size + 1) hx hy (by rw [hlen, hvx]) hl hTS hTn
  have up : ∀ c o, (∀ q, (q = z ∨ q = TO ∨ q = i1 ∨ q = i2) → c ≠ q) → s.heap.get? c = some o → h'.get? c = some o := fun c o hc e => hkeep c o (bt (Heap.lt_size e)) (Nat.ne_of_lt (Heap.lt_size e)) (hc _ (.inl rfl)) (hc _ (.inr (.inl rfl))) (hc _ (.inr (.inr (.inl rfl)))) (hc _ (.inr (.inr (.inr rfl)))) e
  obtain ⟨oL, es, ep, hL, hLr⟩ := F.ns
  have fresh : ∀ c, s.heap.objs.size ≤ c → c ≠ L ∧ h₀.get? c = none := fun c hc => ⟨lt_ne F.ns.lt hc, by
    cases q : h₀.get? c with
    | none => rfl
    | some o => exact absurd (Nat.lt_of_lt_of_le (Heap.lt_size (F.keep _ _ q)) hc) (Nat.lt_irrefl _)⟩
  refine ⟨rfl, h s.heap.objs.size c _ tl h' ⟨⟨oL, es, ep, up _ _ (fun q hq => Ne.symm (hoff q hq).1) hL, hLr⟩, fun c o e => up c o (fun q hq e' => by rw [e', (hoff q hq).2.1] at e; cases e) (F.keep c o e), F.above⟩ (fun p hp => ?_) ht1 (fun p hp => Nat.ne_of_gt (ht2 p hp).2) (fun p hp => Heap.lt_size (N p hp).1) (fun p hp => (ht2 p hp).2)⟩
  rcases List.mem_cons.mp hp with rfl | hp
  · exact ⟨hD, fresh _ (Nat.le_refl _)⟩
  · rcases List.mem_append.mp hp with hp | hp
    · exact ⟨up _ _ (fun q hq => (hoff q hq).2.2 p hp) (N p hp).1, (N p hp).2⟩
    · exact ⟨(ht2 p hp).1, fresh _ (Nat.le_of_succ_le (ht2 p hp).2)⟩
end
end
section
variable {prog : Program} {w : World} {A : Around} {E : Value → Shared → Prop} {s : Shared} {h₀ : Heap} {L : Addr} {m : Str → Option Value} {env : Env}
def CompTA (prog : Program) (w : World) (A : Around) (E : Value → Shared → Prop) (h₀ : Heap) (L : Addr) (m : Str → Option Value) (env : Env) (ct elt : PySem.Expr) (x y : Str) (scope : Scope) (cl : List (Str × Addr)) (Q : Flow → Shared → Prop) (xv : Value) (s₁ : Shared) : Prop :=
  ∃ n P S news, Walkt prog w A E h₀ L xv s₁ n P S ∧ n ≤ sizeLine ∧ Fr h₀ L s₁.heap m ∧ News h₀ L s₁.heap news ∧ S news ∧
    ∀ g : Heap, CompRestT prog w A h₀ L m env ct elt x scope cl { s₁ with heap := g } S P (FinA h₀ L m { s₁ with heap := g } y Q) n 0 [] news
theorem assign_T {ct elt iter : PySem.Expr} {x y : Str} {px py : Pos} {scope : Scope} {cl : List (Str × Addr)} {pos spos : Pos} {Q : Flow → Shared → Prop} (F₀ : Fr h₀ L s.heap m) (hLe : env.locals = L)
    (hsw : swapsWith (.ListComp elt [⟨.Name x px, iter, [ct], 0⟩] scope pos) (some (.Name y py)) spos.line env = pure true)
    (hclos : closureFor scope env = pure cl) (hcell : ∀ z ∈ scope.names, z.2 ≠ .cell) (hkind : scope.kind = .function)
    (hnames : ∀ z ∈ scope.names, z.2 = .local → scope.names.lookup z.1 = some .local) (hx : scope.names.lookup x = some .local)
    (hy : env.kindOf y = some .local) (hp : (env.scope.kind == .class || (env.scope.kind == .module && env.locals != env.globals)) = false)
    (h : wpAny (model prog w) A (eval iter env) (CompTA prog w A E h₀ L m env ct elt x y scope cl Q) E s)
    (hs : ∀ x, foldedSetIterable iter env x = pure x := by intro _; rfl) :
    wpAny (model prog w) A (exec (.Assign [.Name y py] (.ListComp elt [⟨.Name x px, iter, [ct], 0⟩] scope pos) spos) env) Q E s := by
  subst hLe
  rw [exec_Assign_Name_used _ _ _ _ hsw]
  refine wpAny_bind (wpAny_standAt (wpAny_bind ?_))
  show wpAny _ A (do let _ ← comprehension (.ListComp elt [⟨.Name x px, iter, [ct], 0⟩] scope pos) scope env _ (newList []) false (eval iter env) (some (assign (.Name y py) env))) _ _ s
  refine wpAny_bind (wpAny_mono (wpAny_comprehension_free (use := some (assign (.Name y py) env)) (Q := fun _ s' => Q .next s') rfl hs hclos hkind hnames
    (wpAny_mono h (fun xv s₁ h₁ => ?_) fun _ _ e => e)) (fun _ s' hq => wpAny_pure (wpAny_pure hq)) fun _ _ e => e)
  obtain ⟨n, P, S, news, ⟨o, fp, St, hit, W, hst, hfp, hIo, hSt⟩, hsz, F, N, hS, R⟩ := h₁
  refine hit _ ?_
  have up : ∀ b o', s₁.heap.get? b = some o' → (s₁.heap.push o).get? b = some o' := fun b o' e => Heap.get?_push_of_some _ e
  refine block_T (s₂ := { s₁ with heap := s₁.heap.push o }) W hsz hIo hSt hcell hkind hx hst hfp (F.keeps up) (N.grown up) (Nat.ne_of_lt F.ns.lt) (next_is_new F) (fun p hp => Nat.ne_of_lt (Heap.lt_size (N p hp).1)) hS (R _) ?_
  intro D C h' tk m' ys news' F' N' o1 hn hC₀ hD₀ hCL hDL hCD offC fin
  show wpAny _ A (assign (.Name y py) env (.ref D)) _ _ _
  refine wpAny_assign_Name (wpAny_storeName_local hy F'.ns (fun h₂ hn₂ hs₂ => ?_) hp)
  have hL₀ : h₀.get? env.locals = none := Heap.get?_none_of_le F'.above
  have F₂ : Fr h₀ env.locals h₂ (fun z => if z = y then some (.ref D) else m z) := ⟨hn₂, fun b o e => hs₂.extBut b o (fun q => by rw [q, hL₀] at e; cases e) (F'.keep b o e), F'.above⟩
  refine ⟨m', hn.sameBut hs₂ hCL, fun h'' hs'' => fin D h'' _ (F₂.change hs'' hCL hC₀) (fun p hp => ?_) o1⟩
  have z : h₂.get? p.1 = some p.2 := hs₂.extBut _ _ (N' p hp).2.1 (N' p hp).1
  refine ⟨hs''.extBut _ _ ?_ z, (N' p hp).2⟩
  rcases List.mem_cons.mp hp with rfl | hp
  · exact Ne.symm hCD
  · exact offC p hp
end
/-- the comprehensions of _law_figures -/
def InvF (ns : List Int) (p : Int → Bool) (led : Led) (i : Nat) (ys : List Value) (nw : Led) : Prop := nw = led ∧ IntsAre ys ((ns.take i).filter p)
theorem invF_yes {ns : List Int} {p : Int → Bool} {led : Led} {i : Nat} {ys : List Value} {n : Int} {t : Tok} (h : InvF ns p led i ys led) (hn : ns[i]? = some n) (hp : p n = true) : InvF ns p led (i + 1) (ys ++ [.int n t]) led := by
  refine ⟨rfl, ?_⟩
  rw [List.take_add_one, hn, List.filter_append]
  have e : (some n : Option Int).toList.filter p = [n] := by simp [hp]
  rw [e]
  exact IntsAre.append h.2 (.cons _ _ .nil)
theorem invF_no {ns : List Int} {p : Int → Bool} {led : Led} {i : Nat} {ys : List Value} {n : Int} (h : InvF ns p led i ys led) (hn : ns[i]? = some n) (hp : p n = false) : InvF ns p led (i + 1) ys led := by
  refine ⟨rfl, ?_⟩
  rw [List.take_add_one, hn, List.filter_append]
  have e : (some n : Option Int).toList.filter p = [] := by simp [hp]
  rw [e, List.append_nil]
  exact h.2
theorem any_dec {ns : List Int} {k : Int} {b : Bool} (h : (ns.any fun x => x == k) = b) : decide (k ∉ ns) = !b := by
  rw [← h]
  cases q : ns.any fun x => x == k with
  | true =>
    obtain ⟨x, hx, e⟩ := List.any_eq_true.mp q
    rw [beq_iff_eq.mp e] at hx
    simp [hx]
  | false =>
    have : k ∉ ns := fun hm => by
      have := List.any_eq_false.mp q k hm
      simp at this
    simp [this]
theorem ints_get {vs : List Value} {ns : List Int} (h : IntsAre vs ns) : ∀ {i : Nat} {n : Int}, ns[i]? = some n → ∃ t : Tok, vs[i]? = some (.int n t) := by
  induction h with
  | nil => intro i n h; cases h
  | @cons n t vs ns h ih =>
    intro i m hm
    cases i with
    | zero => cases hm; exact ⟨t, rfl⟩
    | succ i => exact ih hm
theorem pick_at {prog : Program} {w : World} {A : Around} {E : Value → Shared → Prop} {s : Shared} {value slice : PySem.Expr} {l : Addr} {vs : List Value} {k : Int} {u : Tok} {i : Nat} {v : Value} {Q : Value → Shared → Prop} (hl : s.heap.IsList l vs.toArray)
    (hk : k = (i : Nat)) (hf : vs.length < 2 ^ 62) (hv : vs[i]? = some v) (h : Q v s)
    (hs : subscripted slice false (.ref l) (.int k u) = operate [.ref l, .int k u] (getItem (.ref l) (.int k u)) := by with_unfolding_all rfl) :
    wpAny (model prog w) A (subscriptTail value slice (.ref l) (.int k u)) Q E s := by
  subst hk
  have hi : i < vs.length := (List.getElem?_eq_some_iff.mp hv).1
  exact tail_any hl.typeIs slot_list_getitem.lookup (wpAny_getItem_list hl (by omega) (by omega) (x := v) (by simpa using hv) h) hs
theorem carried_strs {vs : List Value} {xs : List Str} (h : StrsAre vs xs) : CarriedAll vs (xs.map .str) := by
  induction h with
  | nil => exact .nil
  | cons y t h ih => exact .cons (.str y t) ih
theorem strOk_fig {x : Str} (h : ∀ c ∈ cp x, c < 128) : PyData.strOk x = true := strOk_asc h
theorem pair_asc {p : Int × Int} (h1 : 0 ≤ p.1) (h2 : 0 ≤ p.2) : Asc (pairText p) := by
  intro c hc
  have hc : c ∈ cp (pairText p) := hc
  have f : ∀ {n : Int}, 0 ≤ n → c ∈ cp (intS n) → c < 128 := fun h hm => by
    have := intS_fig h c hm
    simp only [isFig, Bool.and_eq_true, decide_eq_true_eq] at this
    omega
  rw [pairText_cp] at hc
  split at hc
  · exact f h1 hc
  · rcases List.mem_append.mp hc with hc | hc
    · exact f h1 hc
    · rcases List.mem_cons.mp hc with rfl | hc
      · decide
      · exact f h2 hc
theorem strs_ne_nil' {w : World} {A : Around} {E : Value → Shared → Prop} {s : Shared} {h₀ : Heap} {L D l : Addr} {led : Led} {ys : List Value} {cs : List Str} {k n : Nat} {Q : Value → Shared → Prop} (N : News h₀ L s.heap led) (hD : (D, listO ys k) ∈ led) (hl : (l, W.listOf #[] n) ∈ led)
    (hc : CarriedAll ys (cs.map .str)) (hk : ∀ c ∈ cs, PyData.strOk c = true) (hu : A.units + 64 < cLine) (h : Q (.bool (!decide (cs = []))) s) : wpAny (model PR w) A (compareOp .NotEq (.ref D) (.ref l)) Q E s := by
  have hb : Reads s.heap (.ref l) (.list []) [l] := reads_newData (ys := []) (News.isList N hl) .nil
  refine ne_dataH_same (reads_newData (News.isList N hD) hc) hb (shaped_strs cs hk) (by decide) hu (SeqAt.noMix_of_shape (.list .str) rfl _ _ (list_map_has fun _ => rfl) (by decide)) ?_
  rw [same_strs_nil]; exact h
theorem zip_pairs : ∀ (ps : List (Int × Int)), (ps.map (·.1)).zip (ps.map (·.2)) = ps
  | [] => rfl
  | p :: ps => by rw [List.map_cons, List.map_cons, List.zip_cons_cons, zip_pairs ps]
theorem pair_step {ps : List (Int × Int)} {vw : List Value} {i : Nat} {p : Int × Int} {x : Str} {t : Tok} (hw : StrsAre vw ((ps.take i).map pairText)) (hp : ps[i]? = some p) (e : pairText p = x) : StrsAre (vw ++ [.str x t]) ((ps.take (i + 1)).map pairText) := by
  rw [List.take_add_one, hp, List.map_append]
  show StrsAre _ (_ ++ [pairText p])
  rw [e]
  exact strs_snoc hw
/-- the loop of _law_figures -/
def InvG (ps : List (Int × Int)) (W : Addr) (rest : Led) (m₀ : Str → Option Value) (i : Nat) (m : Str → Option Value) (nw : Led) : Prop :=
  ∃ u vw k, m = tm [Str.ofString "at", Str.ofString "alone"] u m₀ ∧ nw = (W, listO vw k) :: rest ∧ StrsAre vw ((ps.take i).map pairText)
theorem ranges_nil {ns : List Int} (hr : Rise ns) : rangesF ns = [] ↔ ns = [] := by
  constructor
  · intro h
    have := (runs_of ns hr.1).flat
    rw [h] at this
    exact this.symm
  · rintro rfl; rfl
theorem my_notin {w : World} {A : Around} {E : Value → Shared → Prop} {s : Shared} {h₀ : Heap} {L a : Addr} {led : Led} {vs : List Value} {ns : List Int} {x : Int} {u : Tok} {Q : Value → Shared → Prop} (h : Q (.bool (!(ns.any (· == x)))) s)
    (N : News h₀ L s.heap led := by k_asm) (ha : (a, tupO vs) ∈ led := by k_mem) (hi : IntsAre vs ns := by assumption) : wpAny (model PR w) A (compareOp .NotIn (.int x u) (.ref a)) Q E s := notin_tuple_ints (News.isTup N ha) hi h
theorem my_pickat {w : World} {A : Around} {E : Value → Shared → Prop} {s : Shared} {value slice : PySem.Expr} {h₀ : Heap} {L l : Addr} {led : Led} {vs : List Value} {k : Int} {u : Tok} {i n : Nat} {v : Value} {Q : Value → Shared → Prop} (h : Q v s)
    (N : News h₀ L s.heap led := by k_asm) (hl : (l, listO vs n) ∈ led := by k_mem) (hv : vs[i]? = some v := by assumption) (hk : k = (i : Nat) := by omega) (hf : vs.length < 2 ^ 62 := by omega)
    (hs : subscripted slice false (.ref l) (.int k u) = operate [.ref l, .int k u] (getItem (.ref l) (.int k u)) := by with_unfolding_all rfl) : wpAny (model PR w) A (subscriptTail value slice (.ref l) (.int k u)) Q E s := pick_at (News.isList N hl) hk hf hv h hs
@[elab_as_elim] theorem InvF.out {ns : List Int} {p : Int → Bool} {led : Led} {i : Nat} {ys : List Value} {G : Led → Prop} (nw : Led) (H : InvF ns p led i ys nw) (h : IntsAre ys ((ns.take i).filter p) → G led) : G nw := by
  obtain ⟨rfl, hy⟩ := H
  exact h hy
@[elab_as_elim] theorem int_at {vs : List Value} {ns : List Int} {i : Nat} {G : Value → Prop} (hv : IntsAre vs ns) (v : Value) (hP : vs[i]? = some v) (h : ∀ n t, ns[i]? = some n → G (.int n t)) : G v := by
  obtain ⟨n, t, hn, rfl⟩ := ints_at hv hP
  exact h n t hn
theorem pair_get {P : Prop} {ps : List (Int × Int)} {ys ys2 : List Value} {i : Nat} (hys : IntsAre ys (ps.map (·.1))) (hys2 : IntsAre ys2 (ps.map (·.2))) (hi : i < ps.length)
    (h : ∀ lo hi t1 t2, (lo, hi) ∈ ps → ps[i]? = some (lo, hi) → ys[i]? = some (.int lo t1) → ys2[i]? = some (.int hi t2) → P) : P := by
  obtain ⟨t1, h1⟩ := ints_get hys (i := i) (n := ps[i].1) (by simp [hi])
  obtain ⟨t2, h2⟩ := ints_get hys2 (i := i) (n := ps[i].2) (by simp [hi])
  exact h ps[i].1 ps[i].2 t1 t2 (List.getElem_mem hi) (List.getElem?_eq_getElem hi) h1 h2
@[elab_as_elim] theorem InvG.out {ps : List (Int × Int)} {W : Addr} {rest : Led} {m₀ : Str → Option Value} {i : Nat} {G : (Str → Option Value) → Led → Prop} (m : Str → Option Value) (nw : Led) (H : InvG ps W rest m₀ i m nw)
    (h : ∀ u vw k, StrsAre vw ((ps.take i).map pairText) → vw.length ≤ i → let m1 := tm [Str.ofString "at", Str.ofString "alone"] u m₀; G m1 ((W, listO vw k) :: rest)) : G m nw := by
  obtain ⟨u, vw, k, rfl, rfl, hw⟩ := H
  exact h u vw k hw (by have := StrsAre.length hw; rw [List.length_map, List.length_take] at this; omega)
theorem InvG.next {ps : List (Int × Int)} {W : Addr} {rest : Led} {m₀ m u : Str → Option Value} {i k : Nat} {vw : List Value} {p : Int × Int} {x : Str} {t : Tok} (hm : m = tm [Str.ofString "at", Str.ofString "alone"] u m₀) (hw : StrsAre vw ((ps.take i).map pairText)) (hp : ps[i]? = some p) (e : pairText p = x) :
    InvG ps W rest m₀ (i + 1) m ((W, listO (vw ++ [.str x t]) k) :: rest) := ⟨u, _, _, hm, rfl, pair_step hw hp e⟩
theorem new_ne {a D' Dz : Addr} {oa o1 o2 : Obj} {tl : Led} (h1 : @LT.lt Nat _ a D') (h2 : @LT.lt Nat _ a Dz) (h3 : ∀ p ∈ tl, @LT.lt Nat _ Dz p.1) : ∀ p ∈ (D', o1) :: (Dz, o2) :: tl, ∀ q ∈ ([] : Led) ++ [(a, oa)], q.1 ≠ p.1 := fun p hp q hq => by
  rw [List.mem_singleton.mp hq]
  rcases List.mem_cons.mp hp with rfl | hp
  · exact Nat.ne_of_lt h1
  · rcases List.mem_cons.mp hp with rfl | hp
    · exact Nat.ne_of_lt h2
    · exact Nat.ne_of_lt (Nat.lt_trans h2 (h3 p hp))
theorem rise_pairs {ns : List Int} (hr : Rise ns) : ∀ p ∈ rangesF ns, 0 ≤ p.1 ∧ p.1 < 5000 ∧ 0 ≤ p.2 ∧ p.2 < 5000 := fun p hp => by
  have h1 := hr.2 _ (ranges_mem p hp).1
  have h2 := hr.2 _ (ranges_mem p hp).2
  omega
theorem none_text {ns : List Int} (hr : Rise ns) (h : (rangesF ns).map pairText = []) : numsText ns = Str.ofString "none" := by
  unfold numsText; rw [if_pos ((ranges_nil hr).mp (List.map_eq_nil_iff.mp h))]
theorem some_text {ns : List Int} (h : ¬ (rangesF ns).map pairText = []) : numsText ns = Txt.join (Str.ofString ",") ((rangesF ns).map pairText) := by
  unfold numsText; rw [if_neg (fun e => h (by rw [e]; rfl)), txt_join]
theorem pairs_sum {ns : List Int} (hr : Rise ns) (hn : ns.length ≤ 100) : (((rangesF ns).map pairText).map (·.length)).sum + ((rangesF ns).map pairText).length ≤ 2200 := by
  have hbb := rise_pairs hr
  have hrl := ranges_len ns
  have h1 := sum_len (f := pairText) (k := 21) (rangesF ns) fun p hp => pair_len (p := p) (by have := hbb p hp; omega) (by have := hbb p hp; omega)
  have h3 : (rangesF ns).length * (21 + 1) ≤ 100 * 22 := Nat.mul_le_mul (by omega) (by decide)
  exact Nat.le_trans h1 h3
theorem pairs_ok {ns : List Int} (hr : Rise ns) : ∀ c ∈ (rangesF ns).map pairText, PyData.strOk c = true := fun c hc => by
  obtain ⟨p, hp, rfl⟩ := List.mem_map.mp hc
  have := rise_pairs hr p hp
  exact strOk_asc (pair_asc this.1 this.2.2.1)
theorem stop_list {M : Model} {A : Around} {E : Value → Shared → Prop} {Q : Value → Shared → Prop} {s : Shared} {a : Addr} {kw : List (Str × Value)} (h : Stop (wpAny M A (call (.type "list") [.ref a] kw) Q E s)) : wpAny M A (call (.type "list") [.ref a] kw) Q E s := h
theorem fresh_F1 : True := by (w_top off); trivial
section
local macro_rules | `(tactic| walk_at "exec Assign cons ListComp") => `(tactic| (k_here; first | k_dflt (refine assign_T (F₀ := by k_asm) (by rfl) (by with_unfolding_all rfl) (by with_unfolding_all rfl) (by decide) (by rfl) (by decide) (by rfl) (by rfl) (by rfl) ?_) | refine Stop.mk ?_))
local macro_rules | `(tactic| walk_at "compareOp NotIn int ref") => `(tactic| (k_here; first | k_dflt refine my_notin ?_ | refine Stop.mk ?_))
local macro_rules | `(tactic| walk_at "exec For Name Call cons nil") => `(tactic| (k_here; with_unfolding_all refine For_invVF (by k_asm) (by exact rfl) (by exact rfl) ?_))
local macro_rules | `(tactic| walk_at "pyIter ref") => `(tactic| (with_reducible refine stop_iterV ?_))
local macro_rules | `(tactic| walk_at "subscriptTail Name Name ref int") => `(tactic| (k_here; first | k_dflt refine my_pickat ?_ | refine Stop.mk ?_))
local macro_rules | `(tactic| walk_at "call type:zip") => `(tactic| (k_here; first | (k_dflt refine zipK (h := ?_); intro z' h' F' N' Z'; (try k_sweep)) | refine Stop.mk ?_))
local macro_rules | `(tactic| walk_at "call type:list") => `(tactic| (with_reducible refine stop_list ?_))
local macro_rules | `(tactic| walk_at "compareOp NotEq ref ref") => `(tactic| (k_here; refine Stop.mk ?_))
theorem figures_ok (w : World) (a : Addr) (vs : List Value) (ns : List Int) (hv : IntsAre vs ns) (hn : ns.length ≤ 100) (hr : Rise ns) :
    Spec0 w 158 [.ref a] [(a, tupO vs)] (fun v new => ∃ T l refs k tl t, v = .ref T ∧ new = (T, tupO [.ref l, .str (numsText ns) t]) :: (l, listO refs k) :: tl ∧ TupsL tl refs ((rangesF ns).map pairD) ∧ ∀ p ∈ tl, @Ne Nat p.1 l) False 9 150 := by
  have hvl := IntsAre.length hv
  unfold Spec0 SpecG KK PR
  k_fill
  intro loose mean mg mb dp un gd envs base g s R B X T hk hsz hp hd hu hret hexc
  (k_dflt refine code_sepC (h := ?_)); k_whole; intro L' h' tk' cells' ev mp F' N' Y' l1; (try simp only [List.nil_append, List.cons_append, List.append_nil] at l1); (try k_lt l1); k_cells Y'; (try dsimp only [List.nil_append, List.cons_append] at N'); intro Ar Mo; (try ((show wpAny _ _ _ _ _ _); k_fold))
  k_steps
  refine ⟨_, _, _, _, walkt_tup (vs := vs) (l := a) rfl (by k_asm) (.tail _ (.head _)), by rw [sizeLine_eq]; omega, by k_asm, by k_asm, .tail _ (.head _), fun gg => ?_⟩
  refine compT_ind (InvF ns (fun n => decide (n - 1 ∉ ns)) [_, (a, tupO vs)]) ⟨rfl, .nil⟩ ?_ ?_
  · intro i ys nw v I oI C oC D m₂ h tk E' hi H
    refine InvF.out nw H ?_
    clear H
    intro hys hP
    refine int_at hv v hP ?_
    clear hP
    intro n t hn' hC hx F N off ne
    (try ((show wpAny _ _ _ _ _ _); k_fold))
    k_steps
    · exact CompEnd.intro (by assumption) (by assumption) _ (fun _ h => h) off (.tail _ (.head _)) (invF_no ⟨rfl, hys⟩ hn' (any_dec ‹_›))
    · exact CompEnd.intro (by assumption) (by assumption) _ (fun _ h => h) off (.tail _ (.head _)) (invF_yes ⟨rfl, hys⟩ hn' (any_dec ‹_›))
  · intro ys nw H
    refine InvF.out nw H ?_
    clear H
    intro hys D h tk F9 N9 off9
    rw [hvl, List.take_length, (runs_of ns hr.1).fsts] at hys
    (try ((show wpAny _ _ _ _ _ _); k_fold))
    k_steps
    refine ⟨_, _, _, _, walkt_tup (vs := vs) (l := a) rfl (by k_asm) (.tail _ (.tail _ (.head _))), by rw [sizeLine_eq]; omega, by k_asm, by k_asm, .tail _ (.tail _ (.head _)), fun gg => ?_⟩
    refine compT_ind (InvF ns (fun n => decide (n + 1 ∉ ns)) [_, _, (a, tupO vs)]) ⟨rfl, .nil⟩ ?_ ?_
    · intro i ys2 nw v I oI C oC D2 m₂ h tk E' hi H
      refine InvF.out nw H ?_
      clear H
      intro hys2 hP
      refine int_at hv v hP ?_
      clear hP
      intro n t hn' hC hx F N off ne
      (try ((show wpAny _ _ _ _ _ _); k_fold))
      k_steps
      · exact CompEnd.intro (by assumption) (by assumption) _ (fun _ h => h) off (.tail _ (.tail _ (.head _))) (invF_no ⟨rfl, hys2⟩ hn' (any_dec ‹_›))
      · exact CompEnd.intro (by assumption) (by assumption) _ (fun _ h => h) off (.tail _ (.tail _ (.head _))) (invF_yes ⟨rfl, hys2⟩ hn' (any_dec ‹_›))
    · intro ys2 nw H
      refine InvF.out nw H ?_
      clear H
      intro hys2 D2 h tk F9 N9 off9'
      rw [hvl, List.take_length, (runs_of ns hr.1).lsts] at hys2
      have hl1 := IntsAre.length hys
      have hl2 := IntsAre.length hys2
      rw [List.length_map] at hl1 hl2
      have hrl := ranges_len ns
      have hbb := rise_pairs hr
      (try ((show wpAny _ _ _ _ _ _); k_fold))
      k_steps
      refine' for_srcM (keep := []) (news := [(?W, listO [] 0), (D2, lst ys2), (D, lst ys), (a, tupO vs)]) (InvG (rangesF ns) ?W [(D2, lst ys2), (D, lst ys), (a, tupO vs)]) ?F (News.sub ?N ?sub) (src_range ?h1 ?h2 ?h3) (List.forall_mem_nil _) ?init ?turn ?fin
      case F => k_asm
      case N => k_asm
      case sub => (repeat' first | exact List.forall_mem_nil _ | refine sub_cons (by k_mem) ?_ | (intro q hq; k_mem))
      case h1 => rfl
      case h2 => assumption
      case h3 => exact small_bd (top := 200) ⟨by omega, by omega⟩ (by decide)
      case init => exact ⟨_, _, _, (tm_eq (by intro y hy; rfl)), rfl, .nil⟩
      case turn =>
        intro I i v m nw it h tk hi hv9 H
        refine tok_of v hv9 ?_
        clear hv9
        intro tv
        refine InvG.out m nw H ?_
        clear H
        intro u vw k hw hwl m1 hne hkeep F N
        refine pair_get hys hys2 (i := i) (by omega) ?_
        intro lo hi2 t1 t2 hm9 hp hv1 hv2
        have hb9 := hbb _ hm9
        dsimp only at hb9
        repeat (have hx9 := (off_cons hne).1; replace hne := (off_cons hne).2; dsimp only at hx9)
        (try ((show wpAny _ _ _ _ _ _); k_fold))
        k_steps
        · exact TurnEnd.mk [(_, listO (vw ++ [_]) (k + 1)), (D2, lst ys2), (D, lst ys), (a, tupO vs)] (by assumption) (by assumption) (by k_mem) (by (repeat' first | exact List.forall_mem_nil _ | refine sub_cons (by k_mem) ?_ | (intro q hq; k_mem))) (by (repeat' first | exact List.forall_mem_nil _ | assumption | refine ne_cons (by k_ne) ?_)) (List.forall_mem_nil _) (.next (by (refine tm_eq ?_; repeat' first | with_reducible exact mp_id | exact mp_tm | refine mp_cons (by k_mem) ?_ | exact mp_id)) hw hp (if_pos ‹lo = hi2›))
        · exact TurnEnd.mk [(_, listO (vw ++ [_]) (k + 1)), (D2, lst ys2), (D, lst ys), (a, tupO vs)] (by assumption) (by assumption) (by k_mem) (by (repeat' first | exact List.forall_mem_nil _ | refine sub_cons (by k_mem) ?_ | (intro q hq; k_mem))) (by (repeat' first | exact List.forall_mem_nil _ | assumption | refine ne_cons (by k_ne) ?_)) (List.forall_mem_nil _) (.next (by (refine tm_eq ?_; repeat' first | with_reducible exact mp_id | exact mp_tm | refine mp_cons (by k_mem) ?_ | exact mp_id)) hw hp (if_neg ‹lo ≠ hi2›))
      case fin =>
        intro m nw h tk H
        refine InvG.out m nw H ?_
        clear H
        intro u vw k hw hwl m1 F N
        rw [show ((ys.length : Int) - 0).toNat = (rangesF ns).length by omega, List.take_length] at hw
        (try ((show wpAny _ _ _ _ _ _); k_fold))
        k_steps
        refine' list_zipK ?hh ?F ?N ?Z ?a ?b hys hys2 ?l ?n ?_
        case F => k_asm
        case N => k_asm
        case Z => assumption
        case hh => rfl
        case a => k_mem
        case b => k_mem
        case l => omega
        case n => omega
        intro Dz cz refs tl hz Fz Nz Tz n1 n2 n3
        rw [zip_pairs] at Tz
        dsimp only [List.nil_append, List.cons_append] at Nz
        have haD : @LT.lt Nat _ a Dz := n2 (a, tupO vs) (by k_mem)
        clear n2
        (try ((show wpAny _ _ _ _ _ _); k_fold))
        k_steps
        refine strs_ne_nil' (by k_asm) (by k_mem) (.head _) (carried_strs hw) (pairs_ok hr) (by k_room) ?_
        k_steps
        · try dsimp only
          try k_unfold
          try dsimp only
          exact hret _ [] (_ :: (Dz, listO refs cz) :: tl) _ _ (Fr.keep (by assumption)) (out_news (by assumption) (sub_app (fun _ h => nomatch h) (sub_cons (by k_mem) (sub_cons (by k_mem) (sub_app (fun p hp => by (repeat' first | assumption | exact List.mem_append_left _ (by with_reducible assumption) | exact List.mem_append_right _ (by with_reducible assumption) | refine List.Mem.tail _ ?_)) (sub_cons (by k_mem) (List.forall_mem_nil _))))))) (new_ne (by omega) haD n3) ⟨rfl, _, Dz, refs, cz, tl, _, rfl, by rw [none_text hr ‹_›], Tz, n1⟩
        · refine join_listW (News.isList (by k_asm) (by k_mem)) hw (by decide) (Nat.le_trans (pairs_sum hr hn) (by decide)) ?_
          intro t' k'
          k_steps
          try dsimp only
          try k_unfold
          try dsimp only
          exact hret _ [] (_ :: (Dz, listO refs cz) :: tl) _ _ (Fr.keep (by assumption)) (out_news (by assumption) (sub_app (fun _ h => nomatch h) (sub_cons (by k_mem) (sub_cons (by k_mem) (sub_app (fun p hp => by (repeat' first | assumption | exact List.mem_append_left _ (by with_reducible assumption) | exact List.mem_append_right _ (by with_reducible assumption) | refine List.Mem.tail _ ?_)) (sub_cons (by k_mem) (List.forall_mem_nil _))))))) (new_ne (by omega) haD n3) ⟨rfl, _, Dz, refs, cz, tl, _, rfl, by rw [some_text ‹_›], Tz, n1⟩
end
theorem fresh_G1 : True := by (w_top off); trivial
theorem News.rot1 {h₀ h : Heap} {L : Addr} {a : Addr × Obj} {tl r : Led} (N : News h₀ L h (a :: (tl ++ r))) : News h₀ L h (a :: (r ++ tl)) := fun p hp => N p (by
  simp only [List.mem_cons, List.mem_append] at hp ⊢
  rcases hp with h | h | h <;> simp [h])
theorem News.rot2 {h₀ h : Heap} {L : Addr} {a b : Addr × Obj} {tl r : Led} (N : News h₀ L h (a :: b :: (tl ++ r))) : News h₀ L h (a :: b :: (r ++ tl)) := fun p hp => N p (by
  simp only [List.mem_cons, List.mem_append] at hp ⊢
  rcases hp with h | h | h | h <;> simp [h])
theorem rise_small {ns : List Int} (h : Rise ns) : ∀ n ∈ ns, 0 ≤ n ∧ n < 10000000000 := fun n hn => by have := h.2 n hn; omega
theorem nums_asc {ns : List Int} (h : Rise ns) : Asc (numsText ns) := by
  intro c hc
  unfold numsText at hc
  split at hc
  · exact (by decide : ∀ c ∈ (Str.ofString "none").cps.toList, c < 128) c hc
  · have e : Str.ofString "," = ⟨#[44]⟩ := by decide
    have hc : c ∈ cp (Str.join (Str.ofString ",") ((rangesF ns).map pairText)) := hc
    rw [e, join_jn] at hc
    have key : ∀ (ps : List (List Nat)), (∀ p ∈ ps, ∀ c ∈ p, c < 128) → ∀ c ∈ jn 44 ps, c < 128 := by
      intro ps
      induction ps with
      | nil => intro _ c hc; cases hc
      | cons p ps ih =>
        intro h c hc
        cases ps with
        | nil => exact h p (.head _) c hc
        | cons q r =>
          have hc : c ∈ p ++ 44 :: jn 44 (q :: r) := hc
          rcases List.mem_append.mp hc with hc | hc
          · exact h p (.head _) c hc
          · rcases List.mem_cons.mp hc with rfl | hc
            · decide
            · exact ih (fun p' hp' => h p' (.tail _ hp')) c hc
    refine key _ (fun p hp => ?_) c hc
    obtain ⟨y, hy, rfl⟩ := List.mem_map.mp hp
    obtain ⟨q, hq, rfl⟩ := List.mem_map.mp hy
    have h1 := h.2 _ (ranges_mem q hq).1
    have h2 := h.2 _ (ranges_mem q hq).2
    exact pair_asc h1.1 h2.1
theorem nums_len {ns : List Int} (h : Rise ns) (hn : ns.length ≤ 10) : (numsText ns).length ≤ 1000 := by
  unfold numsText
  split
  · exact (by decide : (Str.ofString "none").length ≤ 1000)
  · have key : ∀ (ps : List (Int × Int)), (∀ p ∈ ps, p ∈ rangesF ns) → (Str.join (Str.ofString ",") (ps.map pairText)).length ≤ 22 * ps.length := by
      intro ps
      induction ps with
      | nil => intro _; decide
      | cons p ps ih =>
        intro hp
        have hm := hp p (.head _)
        have h1 := h.2 _ (ranges_mem p hm).1
        have h2 := h.2 _ (ranges_mem p hm).2
        have hl := pair_len (p := p) (by omega) (by omega)
        have := ih fun q hq => hp q (.tail _ hq)
        cases ps with
        | nil => show (pairText p).length ≤ _; simp only [List.length_cons, List.length_nil]; omega
        | cons q r =>
          show (pairText p ++ Str.ofString "," ++ Str.join (Str.ofString ",") ((q :: r).map pairText)).length ≤ _
          rw [Str.length_append, Str.length_append, show (Str.ofString ",").length = 1 by decide]
          simp only [List.length_cons] at this ⊢
          omega
    have := key (rangesF ns) fun p hp => hp
    have := ranges_len ns
    omega
section
variable {w : World} {f : Addr} {vs : List Value} {rd led : Led} {d u : Nat} {A₀ A : Around} {base h₀ : Heap} {outer : List Env} {L : Addr} {m : Str → Option Value} {env : Env} {s : Shared} {Q E : Value → Shared → Prop}
  {loose : List Str} {mean : ExcName → Option Value} {mg mb : Str → Option Value}
theorem useL' {D : List (List PyData)} (S : Spec0 w f vs rd (fun v new => ∃ refs k l tl, v = .ref l ∧ new = (l, listO refs k) :: tl ∧ TupsL tl refs D ∧ ∀ p ∈ tl, @Ne Nat p.1 l) False d u)
  (ret : ∀ refs k l tl h' tk', Fr h₀ L h' m → News h₀ L h' ((l, listO refs k) :: (led ++ tl)) → TupsL tl refs D → (∀ p ∈ tl, @Ne Nat p.1 l) → Q (.ref l) { s with heap := h', toks := tk' })
  (F : Fr h₀ L s.heap m := by k_asm) (N : News h₀ L s.heap led := by k_asm) (B : Below A₀ base outer h₀ := by k_asm) (X : (KK w).In h₀ := by k_asm) (T : Top topProg loose mean mg mb h₀ := by k_asm)
  (hA : A.frames = some (env :: outer) := by rfl) (hh : A.handled = none := by rfl) (hf : env.frame = some L := by rfl) (hke : env.scope.kind = .function := by rfl)
  (hsub : SubL rd led := by k_subL) (hd : A.depth + d < recursionLimit := by k_room) (hu : A.units + u < cLine := by k_room) : wpAny (model PR w) A (call (.ref f) vs) Q E s :=
  useL S (fun refs k l tl h' tk' F' N' => ret refs k l tl h' tk' F' (News.rot1 N')) F N B X T hA hh hf hke hsub hd hu
theorem useF {x : Str} {D : List (List PyData)} (S : Spec0 w f vs rd (fun v new => ∃ T l refs k tl t, v = .ref T ∧ new = (T, tupO [.ref l, .str x t]) :: (l, listO refs k) :: tl ∧ TupsL tl refs D ∧ ∀ p ∈ tl, @Ne Nat p.1 l) False d u)
  (ret : ∀ T l refs k tl t h' tk', Fr h₀ L h' m → News h₀ L h' ((T, tupO [.ref l, .str x t]) :: (l, listO refs k) :: (led ++ tl)) → TupsL tl refs D → (∀ p ∈ tl, @Ne Nat p.1 l) → Q (.ref T) { s with heap := h', toks := tk' })
  (F : Fr h₀ L s.heap m := by k_asm) (N : News h₀ L s.heap led := by k_asm) (B : Below A₀ base outer h₀ := by k_asm) (X : (KK w).In h₀ := by k_asm) (T : Top topProg loose mean mg mb h₀ := by k_asm)
  (hA : A.frames = some (env :: outer) := by rfl) (hh : A.handled = none := by rfl) (hf : env.frame = some L := by rfl) (hke : env.scope.kind = .function := by rfl)
  (hsub : SubL rd led := by k_subL) (hd : A.depth + d < recursionLimit := by k_room) (hu : A.units + u < cLine := by k_room) : wpAny (model PR w) A (call (.ref f) vs) Q E s :=
  spec_use0 S B F X N T hA hh hf hke hsub hd hu (fun _ _ h' tk' F' N' _ ⟨T, l, refs, k, tl, t, e1, e2, q, p⟩ => by subst e1 e2; exact ret T l refs k tl t h' tk' F' (News.rot2 N') q p) (fun _ _ _ _ _ _ _ _ h => h.elim)
end
section
variable {w : World} {A₀ A : Around} {base h₀ : Heap} {outer : List Env} {L : Addr} {m : Str → Option Value} {env : Env} {s : Shared} {Q E : Value → Shared → Prop}
  {loose : List Str} {mean : ExcName → Option Value} {mg mb : Str → Option Value} {led : Led} {gl : Obj → Led}
theorem call158 {a : Addr} {vs : List Value} {ns : List Int} {app : Led → Led}
  (ret : ∀ T l refs k tl t h' tk', Fr h₀ L h' m → News h₀ L h' ((T, tupO [.ref l, .str (numsText ns) t]) :: (l, listO refs k) :: app tl) → TupsL tl refs ((rangesF ns).map pairD) → (∀ p ∈ tl, @Ne Nat p.1 l) → Q (.ref T) { s with heap := h', toks := tk' })
  (F : Fr h₀ L s.heap m := by k_asm) (N : News h₀ L s.heap led := by k_asm) (B : Below A₀ base outer h₀ := by k_asm) (X : (KK w).In h₀ := by k_asm) (T : Top topProg loose mean mg mb h₀ := by k_asm)
  (hA : A.frames = some (env :: outer) := by rfl) (hh : A.handled = none := by rfl) (hf : env.frame = some L := by rfl) (hke : env.scope.kind = .function := by rfl) (hsub : SubL [(a, tupO vs)] led := by k_subL) (hd : A.depth + 9 < recursionLimit := by k_room) (hu : A.units + 150 < cLine := by k_room) (hv : IntsAre vs ns := by assumption) (hn : ns.length ≤ 100 := by omega) (hr : Rise ns := by assumption) (cat : ∀ tl, led ++ tl = app tl := by (intro tl; first | (dsimp only [List.cons_append, List.nil_append]; done) | exact rfl)) : wpAny (model PR w) A (call (.ref 158) [.ref a]) Q E s :=
  useF (figures_ok w a vs ns hv hn hr) (fun T l refs k tl t h' tk' F' N' => ret T l refs k tl t h' tk' F' (cat tl ▸ N')) F N B X T hA hh hf hke hsub hd hu
theorem call94r {a : Addr} {vs : List Value} {ns : List Int} {app : Led → Led}
  (ret : ∀ refs k l tl h' tk', Fr h₀ L h' m → News h₀ L h' ((l, listO refs k) :: app tl) → TupsL tl refs ((rangesF ns).map pairD) → (∀ p ∈ tl, @Ne Nat p.1 l) → Q (.ref l) { s with heap := h', toks := tk' })
  (F : Fr h₀ L s.heap m := by k_asm) (N : News h₀ L s.heap led := by k_asm) (B : Below A₀ base outer h₀ := by k_asm) (X : (KK w).In h₀ := by k_asm) (T : Top topProg loose mean mg mb h₀ := by k_asm)
  (hA : A.frames = some (env :: outer) := by rfl) (hh : A.handled = none := by rfl) (hf : env.frame = some L := by rfl) (hke : env.scope.kind = .function := by rfl) (hsub : SubL [(a, tupO vs)] led := by k_subL) (hd : A.depth + 5 < recursionLimit := by k_room) (hu : A.units + 100 < cLine := by k_room) (hv : IntsAre vs ns := by assumption) (hn : ns.length ≤ 5000 := by omega) (cat : ∀ tl, led ++ tl = app tl := by (intro tl; first | (dsimp only [List.cons_append, List.nil_append]; done) | exact rfl)) : wpAny (model PR w) A (call (.ref 94) [.ref a]) Q E s :=
  useL' (ranges_ok w a vs ns hv hn) (fun refs k l tl h' tk' F' N' => ret refs k l tl h' tk' F' (cat tl ▸ N')) F N B X T hA hh hf hke hsub hd hu
theorem call99 {a : Addr} {vs : List Value} {ns : List Int}
  (ret : ∀ t h' tk', Fr h₀ L h' m → News h₀ L h' led → Q (.str (numsText ns) t) { s with heap := h', toks := tk' })
  (F : Fr h₀ L s.heap m := by k_asm) (N : News h₀ L s.heap led := by k_asm) (B : Below A₀ base outer h₀ := by k_asm) (X : (KK w).In h₀ := by k_asm) (T : Top topProg loose mean mg mb h₀ := by k_asm)
  (hA : A.frames = some (env :: outer) := by rfl) (hh : A.handled = none := by rfl) (hf : env.frame = some L := by rfl) (hke : env.scope.kind = .function := by rfl) (hsub : SubL [(a, tupO vs)] led := by k_subL) (hd : A.depth + 12 < recursionLimit := by k_room) (hu : A.units + 200 < cLine := by k_room) (hv : IntsAre vs ns := by assumption) (hn : ns.length ≤ 100 := by omega) (hr : Rise ns := by assumption) : wpAny (model PR w) A (call (.ref 99) [.ref a]) Q E s :=
  useS (ntext_ok w a vs ns hv hn (rise_small hr)) ret F N B X T hA hh hf hke hsub hd hu
end
local macro_rules | `(tactic| walk_at "call ref") => `(tactic| (k_here; k_dflt refine call158 ?_; intros; k_sweep))
local macro_rules | `(tactic| walk_at "call ref") => `(tactic| (k_here; k_dflt refine call94r ?_; intros; k_sweep))
local macro_rules | `(tactic| walk_at "call ref") => `(tactic| (k_here; k_dflt refine call99 ?_; intros; k_sweep))
theorem numbers_back (w : World) (ns : List Int) (t t' : Tok) (row : Int) (hr : Rise ns) (hn : ns.length ≤ 10) :
    Spec0 w 80 [.str (numsText ns) t, .int row t'] [] (fun v new => ∃ vs l, v = .ref l ∧ new = [(l, tupO vs)] ∧ IntsAre vs ns) False 24 400 := by
  refine (numbers_ok w (numsText ns) t t' row (nums_len hr hn) (nums_asc hr)).mono ?_ ?_
  · rintro v new ⟨ms, vs, l, h, e1, e2, h3⟩
    rw [nums_back hr (by omega)] at h
    cases h
    exact ⟨vs, l, e1, e2, h3⟩
  · intro h; rw [nums_back hr (by omega)] at h; cases h
section
variable {w : World} {A₀ A : Around} {base h₀ : Heap} {outer : List Env} {L : Addr} {m : Str → Option Value} {env : Env} {s : Shared} {Q E : Value → Shared → Prop}
  {loose : List Str} {mean : ExcName → Option Value} {mg mb : Str → Option Value} {led : Led} {gl : Obj → Led}
theorem call80 {ns : List Int} {t t1 : Tok} {row : Int}
  (ret : ∀ vs l h' tk', Fr h₀ L h' m → News h₀ L h' ((l, tupO vs) :: led) → IntsAre vs ns → Q (.ref l) { s with heap := h', toks := tk' })
  (F : Fr h₀ L s.heap m := by k_asm) (N : News h₀ L s.heap led := by k_asm) (B : Below A₀ base outer h₀ := by k_asm) (X : (KK w).In h₀ := by k_asm) (T : Top topProg loose mean mg mb h₀ := by k_asm)
  (hA : A.frames = some (env :: outer) := by rfl) (hh : A.handled = none := by rfl) (hf : env.frame = some L := by rfl) (hke : env.scope.kind = .function := by rfl) (hsub : SubL [] led := by k_subL) (hd : A.depth + 24 < recursionLimit := by k_room) (hu : A.units + 400 < cLine := by k_room) (hr : Rise ns := by assumption) (hn : ns.length ≤ 10 := by omega) : wpAny (model PR w) A (call (.ref 80) [.str (numsText ns) t, .int row t1]) Q E s :=
  useN (numbers_back w ns t t1 row hr hn) ret F N B X T hA hh hf hke hsub hd hu
end
local macro_rules | `(tactic| walk_at "call ref") => `(tactic| (k_here; k_dflt refine call80 ?_; intros; k_sweep))
section
local macro_rules | `(tactic| walk_at "compareOp NotEq str str") => `(tactic| (k_here; k_dflt (refine' ne_str_self ?_)))
local macro_rules | `(tactic| walk_at "compareOp NotEq ref ref") => `(tactic| (k_here; refine Stop.mk ?_))
theorem nright_ok (w : World) (a : Addr) (vs : List Value) (ns : List Int) (hv : IntsAre vs ns) (hn : ns.length ≤ 6) (hr : Rise ns) :
    Spec0 w 165 [.ref a] [(a, tupO vs)] (fun v new => v = .bool true ∧ new = []) False 40 700 := by
  have hvl := IntsAre.length hv
  unfold Spec0 SpecG KK PR
  k_fill
  intro loose mean mg mb dp un gd envs base g s R B X T hk hsz hp hd hu hret hexc
  (k_dflt refine code_sep (h := ?_)); k_whole; intro L' h' tk' mp F' N'; (try dsimp only [List.nil_append, List.cons_append] at N'); intro ev Ar Mo; (try dsimp only); (try k_fold)
  k_steps
  refine ne_same (reads_tupsN (by k_asm) (by k_mem) ‹TupsL _ _ _› (fun p hp => by (repeat' first | assumption | exact List.mem_append_left _ (by with_reducible assumption) | exact List.mem_append_right _ (by with_reducible assumption) | refine List.Mem.tail _ ?_))) (reads_tupsN (by k_asm) (by k_mem) ‹TupsL _ _ _› (fun p hp => by (repeat' first | assumption | exact List.mem_append_left _ (by with_reducible assumption) | exact List.mem_append_right _ (by with_reducible assumption) | refine List.Mem.tail _ ?_))) (shaped_pairs _) (pairs_noMix _) (by k_room) ?_
  k_steps
  · have e : (numsText ns == numsText ns) = true := beq_self_eq_true _
    rw [e]
    exact hret _ [] [] _ _ (Fr.keep (by assumption)) (out_news (by assumption) (by (repeat' first | exact List.forall_mem_nil _ | refine sub_cons (by k_mem) ?_ | (intro q hq; k_mem)))) (fun _ h => nomatch h) ⟨rfl, rfl, rfl⟩
  · exact absurd rfl ‹¬ ns = ns›
end
theorem strs_small {n : Str} {L : List Str} (hn : n ∈ L) (h : (L.all fun s => decide (s.length ≤ 10) && s.cps.toList.all fun c => decide (c < 128)) = true) : n.length ≤ 10 ∧ Asc n := by
  have := List.all_eq_true.mp h n hn
  simp only [Bool.and_eq_true, decide_eq_true_eq, List.all_eq_true] at this
  exact this
theorem row_word {n : Str} {L : List Str} (hn : n ∈ L) (h : (L.all fun s => !(cp s).isEmpty && (cp s).all plainC && (cp s).head? != some 33) = true) (b : List Nat) : wordsL (cp n ++ 32 :: b) = (wordsL (32 :: b)).map (wordC (n, false) :: ·) := by
  have := List.all_eq_true.mp h n hn
  simp only [Bool.and_eq_true, Bool.not_eq_true', List.isEmpty_eq_false_iff, List.all_eq_true, bne_iff_ne, ne_eq] at this
  exact RowOk.word this.1.1 this.1.2 this.2 b
theorem row_blank {n : Str} {L : List Str} (hn : n ∈ L) (h : (L.all fun s => !(cp s).isEmpty && (cp s).all fun c => c == 32) = true) : (∀ c ∈ cp n, c = 32) ∧ cp n ≠ [] := by
  have := List.all_eq_true.mp h n hn
  simp only [Bool.and_eq_true, Bool.not_eq_true', List.isEmpty_eq_false_iff, List.all_eq_true, beq_iff_eq] at this
  exact ⟨this.2, this.1⟩
theorem row_tail {n : Str} {L : List Str} (hn : n ∈ L) (h : (L.all fun s => decide (wordsL (cp s) = some [])) = true) : wordsL (cp n) = some [] := by
  have := List.all_eq_true.mp h n hn
  exact of_decide_eq_true this
theorem row_quoted (x : Str) (b : List Nat) : wordsL (cp (quoteS x) ++ 32 :: b) = (wordsL (32 :: b)).map (wordC (x, true) :: ·) := by
  have e : cp (quoteS x) = 34 :: esc (cp x) ++ [34] := by show ([34] ++ esc (cp x) ++ [34]).toArray.toList = _; simp
  rw [e]
  exact RowOk.quoted (cp x) b
theorem row_add {x w bl : Str} {due : List (Str × Bool)} {d : Str × Bool} (h : RowOk (cp x) (due.map wordC)) (hw : ∀ b, wordsL (cp w ++ 32 :: b) = (wordsL (32 :: b)).map (wordC d :: ·)) (hb : (∀ c ∈ cp bl, c = 32) ∧ cp bl ≠ []) : RowOk (cp (x ++ w ++ bl)) ((due ++ [d]).map wordC) := by
  rw [cp_app, cp_app, List.map_append]
  exact RowOk.add h hw hb.1 hb.2
theorem wordC_inj {a b : Str × Bool} (h : wordC a = wordC b) : a = b := by
  have h : (cp a.1, a.2) = (cp b.1, b.2) := h
  obtain ⟨h1, h2⟩ := Prod.mk.inj h
  exact Prod.ext (cp_inj h1) h2
theorem map_wordC : ∀ {a b : List (Str × Bool)}, a.map wordC = b.map wordC → a = b
  | [], [], _ => rfl
  | [], _ :: _, h => by cases h
  | _ :: _, [], h => by cases h
  | x :: a, y :: b, h => by
    simp only [List.map_cons, List.cons.injEq] at h
    rw [wordC_inj h.1, map_wordC h.2]
theorem row_words (w : World) (x n : Str) (due : List (Str × Bool)) (t t' : Tok) (row : Int) (hx : (x ++ n).length ≤ 1000) (ha : Asc x) (hb : Asc n) (hr : RowOk (cp x) (due.map wordC)) (hn : wordsL (cp n) = some []) :
    Spec0 w 61 [.str (x ++ n) t, .int row t'] [] (fun v new => ∃ refs k l tl, v = .ref l ∧ new = (l, listO refs k) :: tl ∧ TupsL tl refs (due.map wordD) ∧ ∀ p ∈ tl, @Ne Nat p.1 l) False 20 400 := by
  have hw : wordsL (cp (x ++ n)) = some (due.map wordC) := by rw [cp_app]; exact RowOk.fin hr hn
  refine (words_ok w (x ++ n) t t' row hx (app_asc ha hb)).mono ?_ ?_
  · rintro v new ⟨due', refs, k, l, tl, h, h1, h2, h3, h4⟩
    rw [hw] at h
    have e := map_wordC (Option.some.inj h)
    subst e
    exact ⟨refs, k, l, tl, h1, h2, h3, h4⟩
  · intro h; rw [hw] at h; cases h
theorem fresh_G2 : True := by (w_top off); trivial
theorem quote_len6 {x : Str} (h : x.length ≤ 6) : (quoteS x).length ≤ 14 := by
  rw [len_list] at h ⊢
  show ([34] ++ esc (cp x) ++ [34]).length ≤ 14
  have := esc_len (cp x)
  have h : (cp x).length ≤ 6 := h
  simp only [List.length_append, List.length_cons, List.length_nil]
  omega
section
variable {w : World} {f : Addr} {vs : List Value} {rd led : Led} {d u : Nat} {A₀ A : Around} {base h₀ : Heap} {outer : List Env} {L : Addr} {m : Str → Option Value} {env : Env} {s : Shared} {Q E : Value → Shared → Prop}
  {loose : List Str} {mean : ExcName → Option Value} {mg mb : Str → Option Value} {l : Addr} {o : Obj} {gl : Obj → Led}
theorem useX (S : Spec1 w f vs l o rd (fun v o' new => (∃ (x : Str) (t : Tok), v = .str x t ∧ x.length ≤ 6 ∧ Asc x) ∧ new = [] ∧ IsSrc o') False d u)
  (ret : ∀ x t o' h' tk', Fr h₀ L h' m → News h₀ L h' (gl o') → x.length ≤ 6 → Asc x → IsSrc o' → Q (.str x t) { s with heap := h', toks := tk' })
  (F : Fr h₀ L s.heap m := by k_asm) (N : News h₀ L s.heap led := by k_asm) (B : Below A₀ base outer h₀ := by k_asm) (X : (KK w).In h₀ := by k_asm) (T : Top topProg loose mean mg mb h₀ := by k_asm)
  (hA : A.frames = some (env :: outer) := by rfl) (hh : A.handled = none := by rfl) (hf : env.frame = some L := by rfl) (hke : env.scope.kind = .function := by rfl)
  (U : UpdF l o led gl := by k_updF) (hsub : SubL rd led := by k_subL) (hd : A.depth + d < recursionLimit := by k_room) (hu : A.units + u < cLine := by k_room) : wpAny (model PR w) A (call (.ref f) vs) Q E s :=
  spec_use1 S B F X N T hA hh hf hke U hsub hd hu (fun _ o' _ h' tk' F' N' _ ⟨⟨x, t, e1, p, q⟩, e2, r⟩ => by subst e1 e2; exact ret x t o' h' tk' F' N' p q r) (fun _ _ _ _ _ _ _ _ h => h.elim)
end
section
variable {w : World} {A₀ A : Around} {base h₀ : Heap} {outer : List Env} {L : Addr} {m : Str → Option Value} {env : Env} {s : Shared} {Q E : Value → Shared → Prop}
  {loose : List Str} {mean : ExcName → Option Value} {mg mb : Str → Option Value} {led : Led} {gl : Obj → Led}
theorem call170 {l : Addr} {o : Obj}
  (ret : ∀ x t o' h' tk', Fr h₀ L h' m → News h₀ L h' (gl o') → x.length ≤ 6 → Asc x → (quoteS x).length ≤ 14 → IsSrc o' → Q (.str x t) { s with heap := h', toks := tk' })
  (F : Fr h₀ L s.heap m := by k_asm) (N : News h₀ L s.heap led := by k_asm) (B : Below A₀ base outer h₀ := by k_asm) (X : (KK w).In h₀ := by k_asm) (T : Top topProg loose mean mg mb h₀ := by k_asm)
  (hA : A.frames = some (env :: outer) := by rfl) (hh : A.handled = none := by rfl) (hf : env.frame = some L := by rfl) (hke : env.scope.kind = .function := by rfl) (ho : IsSrc o := by assumption) (U : UpdF l o led gl := by k_updF) (hsub : SubL [] led := by k_subL) (hd : A.depth + 9 < recursionLimit := by k_room) (hu : A.units + 120 < cLine := by k_room) : wpAny (model PR w) A (call (.ref 170) [.ref l]) Q E s :=
  useX (ltext_ok w l o ho) (fun x t o' h' tk' F' N' a b => ret x t o' h' tk' F' N' a b (quote_len6 a)) F N B X T hA hh hf hke U hsub hd hu
end
local macro_rules | `(tactic| walk_at "call ref") => `(tactic| (k_here; k_dflt refine call170 ?_; intros; k_sweep))
/-- the loop of _law_row_right -/
def InvRow (l D : Addr) (m₀ : Str → Option Value) (i : Nat) (m : Str → Option Value) (nw : Led) : Prop :=
  ∃ (x : Str) (t : Tok), ∃ u refs k tl o', ∃ due : List (Str × Bool), m = (fun y => if y = Str.ofString "text" then some (.str x t) else tm [Str.ofString "turn"] u m₀ y) ∧ nw = (l, o') :: (D, listO refs k) :: tl ∧ IsSrc o' ∧ TupsL tl refs (due.map wordD) ∧ (∀ p ∈ tl, @Ne Nat p.1 D) ∧ (∀ p ∈ tl, @Ne Nat p.1 l) ∧
    RowOk (cp x) (due.map wordC) ∧ Asc x ∧ x.length ≤ 2 + 30 * i ∧ refs.length = i ∧ ∀ p ∈ due, Asc p.1
@[elab_as_elim] theorem InvRow.out {l D : Addr} {m₀ : Str → Option Value} {i : Nat} {G : (Str → Option Value) → Led → Prop} (m : Str → Option Value) (nw : Led) (H : InvRow l D m₀ i m nw)
    (h : ∀ (x : Str) (t : Tok) u refs k tl o' (due : List (Str × Bool)), IsSrc o' → TupsL tl refs (due.map wordD) → (∀ p ∈ tl, @Ne Nat p.1 D) → (∀ p ∈ tl, @Ne Nat p.1 l) → RowOk (cp x) (due.map wordC) → Asc x → x.length ≤ 2 + 30 * i → refs.length = i → (∀ p ∈ due, Asc p.1) →
      let m1 : Str → Option Value := fun y => if y = Str.ofString "text" then some (.str x t) else tm [Str.ofString "turn"] u m₀ y
      G m1 ((l, o') :: (D, listO refs k) :: tl)) : G m nw := by
  obtain ⟨x, t, u, refs, k, tl, o', due, rfl, rfl, a1, a2, a3, a4, a5, a6, a7, a8, a9⟩ := H
  exact h x t u refs k tl o' due a1 a2 a3 a4 a5 a6 a7 a8 a9
theorem InvRow.init {l D : Addr} {m₀ m u : Str → Option Value} {x : Str} {t : Tok} {o' : Obj} (hx : x ∈ [Str.ofString "", Str.ofString " ", Str.ofString "  "]) (hm : m = fun y => if y = Str.ofString "text" then some (.str x t) else tm [Str.ofString "turn"] u m₀ y) (hs : IsSrc o') :
    InvRow l D m₀ 0 m [(l, o'), (D, listO [] 0)] := by
  refine ⟨x, t, u, [], 0, [], o', [], hm, rfl, hs, .nil, (fun _ h => nomatch h), (fun _ h => nomatch h), ?_, ?_, ?_, rfl, fun _ h => nomatch h⟩
  all_goals simp only [List.mem_cons, List.not_mem_nil, or_false] at hx
  · rcases hx with h | h | h <;> rw [h] <;> exact RowOk.start (by decide)
  · rcases hx with h | h | h <;> rw [h] <;> exact asc_dec (by decide)
  · rcases hx with h | h | h <;> rw [h] <;> decide
theorem InvRow.snoc {l D e : Addr} {m₀ m u : Str → Option Value} {x wd wt bl : Str} {t t1 : Tok} {o' : Obj} {q : Bool} {refs : List Value} {k i : Nat} {tl : Led} {due : List (Str × Bool)}
    (hm : m = fun y => if y = Str.ofString "text" then some (.str (x ++ wt ++ bl) t) else tm [Str.ofString "turn"] u m₀ y) (hs : IsSrc o') (hT : TupsL tl refs (due.map wordD)) (hD : ∀ p ∈ (e, tupO [.str wd t1, .bool q]) :: tl, @Ne Nat p.1 D) (hl : ∀ p ∈ (e, tupO [.str wd t1, .bool q]) :: tl, @Ne Nat p.1 l)
    (hrow : RowOk (cp (x ++ wt ++ bl)) ((due ++ [(wd, q)]).map wordC)) (hax : Asc x) (haw : Asc wt) (hab : Asc bl) (hxl : x.length ≤ 2 + 30 * i) (hwl : wt.length ≤ 14) (hbl : bl.length ≤ 10) (hrl : refs.length = i) (hda : ∀ p ∈ due, Asc p.1) (hwd : Asc wd) :
    InvRow l D m₀ (i + 1) m ((l, o') :: (D, listO (refs ++ [.ref e]) (k + 1)) :: (e, tupO [.str wd t1, .bool q]) :: tl) := by
  refine ⟨_, t, u, _, _, _, o', due ++ [(wd, q)], hm, rfl, hs, ?_, hD, hl, hrow, app_asc (app_asc hax haw) hab, ?_, ?_, ?_⟩
  · rw [List.map_append]; exact (hT.mono fun p hp => .tail _ hp).snoc (.head _) (.cons (.str _ _) (.cons (.bool _) .nil))
  · rw [Str.length_append, Str.length_append]; omega
  · rw [List.length_append, List.length_singleton]; omega
  · intro p hp
    rcases List.mem_append.mp hp with hp | hp
    · exact hda p hp
    · rw [List.mem_singleton.mp hp]; exact hwd
section
variable {w : World} {A₀ A : Around} {base h₀ : Heap} {outer : List Env} {L : Addr} {m : Str → Option Value} {env : Env} {s : Shared} {Q E : Value → Shared → Prop}
  {loose : List Str} {mean : ExcName → Option Value} {mg mb : Str → Option Value} {led : Led} {gl : Obj → Led}
theorem useStrs10 {l th : Addr} {o : Obj} {vs : List Value} {k : Nat} {xs : List Str}
  (ret : ∀ n t o' h' tk', Fr h₀ L h' m → News h₀ L h' (gl o') → n ∈ xs → n.length ≤ 10 → IsSrc o' → Q (.str n t) { s with heap := h', toks := tk' })
  (F : Fr h₀ L s.heap m := by k_asm) (N : News h₀ L s.heap led := by k_asm) (B : Below A₀ base outer h₀ := by k_asm) (X : (KK w).In h₀ := by k_asm) (T : Top topProg loose mean mg mb h₀ := by k_asm)
  (hA : A.frames = some (env :: outer) := by rfl) (hh : A.handled = none := by rfl) (hf : env.frame = some L := by rfl) (hke : env.scope.kind = .function := by rfl) (ho : IsSrc o := by assumption)
  (U : UpdF l o led gl := by k_updF) (hsub : SubL [(th, listO vs k)] led := by k_subL) (hd : A.depth + 5 < recursionLimit := by k_room) (hu : A.units + 50 < cLine := by k_room)
  (hv : allStrs vs = true := by rfl) (ht : vs ≠ [] := by exact List.cons_ne_nil _ _) (hn : vs.length ≤ 5000 := by exact Nat.le_of_ble_eq_true (by rfl)) (hne : @Ne Nat th l := by k_ne)
  (hxs : strsOf vs = xs := by (dsimp only [strsOf])) (hsm : (xs.all fun s => decide (s.length ≤ 10) && s.cps.toList.all fun c => decide (c < 128)) = true := by decide) : wpAny (model PR w) A (call (.ref 139) [.ref l, .ref th]) Q E s :=
  useStrs (fun n t o' h' tk' F' N' hm hs => ret n t o' h' tk' F' N' hm (strs_small hm hsm).1 hs) F N B X T hA hh hf hke ho U hsub hd hu hv ht hn hne hxs
end
section
local macro_rules | `(tactic| walk_at "subscriptTail Name UnaryOp ref int") => `(tactic| ((with_reducible refine at_sub (-1) ?_); k_dflt refine last_ref (h := ?_)))
local macro_rules | `(tactic| walk_at "subscriptTail") => `(tactic| ((with_reducible refine at_sub 0 ?_); k_dflt refine tup_item (i := 0) (h := ?_)))
local macro_rules | `(tactic| walk_at "pyIter ref") => `(tactic| (with_reducible refine stop_iterV ?_))
local macro_rules | `(tactic| walk_at "call ref") => `(tactic| (with_reducible refine stop_call (n := 61) ?_))
local macro_rules | `(tactic| walk_at "call ref") => `(tactic| (k_here; k_dflt refine useStrs10 ?_; intros; k_sweep))
local macro_rules | `(tactic| walk_at "compareOp Eq ref ref") => `(tactic| (k_here; refine Stop.mk ?_))
theorem row_ok (w : World) (l : Addr) (o : Obj) (ho : IsSrc o) :
    Spec1 w 191 [.ref l] l o [] (fun v o' new => v = .bool true ∧ IsSrc o' ∧ new = []) False 40 700 := by
  unfold Spec1 SpecG KK PR
  k_fill
  intro loose mean mg mb dp un gd envs base g s R B X T hk hsz hp hd hu hret hexc
  (k_dflt refine code_sep (h := ?_)); k_whole; intro L' h' tk' mp F' N'; (try dsimp only [List.nil_append, List.cons_append] at N'); intro ev Ar Mo; (try dsimp only); (try k_fold)
  k_steps
  refine' for_srcM (keep := []) (news := [(l, _), (?D, listO [] 0)]) (InvRow l ?D) ?F (News.sub ?N ?sub) (src_range ?h1 ?h2 ?h3) (List.forall_mem_nil _) ?init ?turn ?fin
  case F => k_asm
  case N => k_asm
  case sub => (repeat' first | exact List.forall_mem_nil _ | refine sub_cons (by k_mem) ?_ | (intro q hq; k_mem))
  case h1 => rfl
  case h2 => assumption
  case h3 => exact small_bd (by assumption) (by decide)
  case init => exact .init ‹_ ∈ [Str.ofString "", Str.ofString " ", Str.ofString "  "]› (tm1_self (by with_unfolding_all rfl)) ‹IsSrc _›
  case turn =>
    intro I i v m nw it h tk hi hv H
    refine tok_of v hv ?_
    intro tv
    refine InvRow.out m nw H ?_
    clear H hv
    intro x t u refs k tl o' due hsrc hT htD htl hrow hax hxl hrl hda m1 hne hkeep F N
    have hB := ‹Bd _ 6›
    have hB2 := hB.2
    have hi5 : i ≤ 5 := by omega
    have hxl' : x.length ≤ 152 := by omega
    have q1 : @Ne Nat l I := (off_cons hne).1
    have q2 : @Ne Nat _ I := (off_cons (off_cons hne).2).1
    replace hne := (off_cons (off_cons hne).2).2
    (try ((show wpAny _ _ _ _ _ _); k_fold))
    k_steps
    · have hw1 := ‹_ ∈ [Str.ofString "up", Str.ofString "5", Str.ofString "a!", Str.ofString "1-3,5", Str.ofString "b\\"]›
      have hb1 := ‹_ ∈ [Str.ofString " ", Str.ofString "  "]›
      have s1 := strs_small hw1 (by decide)
      have s2 := strs_small hb1 (by decide)
      exact TurnEnd.mk ((l, _) :: (_, listO (refs ++ [.ref _]) (k + 1)) :: (_, tupO [.str _ _, .bool false]) :: tl) (by assumption) (by assumption) (by k_mem) (by (repeat' first | exact List.forall_mem_nil _ | refine sub_cons (by k_mem) ?_ | (intro q hq; k_mem))) (by (repeat' first | exact List.forall_mem_nil _ | assumption | refine ne_cons (by k_ne) ?_)) (List.forall_mem_nil _)
        (.snoc (by (refine tm1 (by rfl) ?_; repeat' first | with_reducible exact mq_id | exact mq_tm | refine mq_x ?_ | refine mq_cons (by k_mem) ?_ | exact mq_id)) (by assumption) hT (by (repeat' first | exact List.forall_mem_nil _ | assumption | refine ne_cons (by k_ne) ?_)) (by (repeat' first | exact List.forall_mem_nil _ | assumption | refine ne_cons (by k_ne) ?_)) (row_add hrow (row_word hw1 (by decide)) (row_blank hb1 (by decide))) hax s1.2 s2.2 hxl (Nat.le_trans s1.1 (by decide)) s2.1 hrl hda s1.2)
    · have hb1 := ‹_ ∈ [Str.ofString " ", Str.ofString "  "]›
      have s2 := strs_small hb1 (by decide)
      have hq9 := ‹(quoteS _).length ≤ 14›
      exact TurnEnd.mk ((l, _) :: (_, listO (refs ++ [.ref _]) (k + 1)) :: (_, tupO [.str _ _, .bool true]) :: tl) (by assumption) (by assumption) (by k_mem) (by (repeat' first | exact List.forall_mem_nil _ | refine sub_cons (by k_mem) ?_ | (intro q hq; k_mem))) (by (repeat' first | exact List.forall_mem_nil _ | assumption | refine ne_cons (by k_ne) ?_)) (List.forall_mem_nil _)
        (.snoc (by (refine tm1 (by rfl) ?_; repeat' first | with_reducible exact mq_id | exact mq_tm | refine mq_x ?_ | refine mq_cons (by k_mem) ?_ | exact mq_id)) (by assumption) hT (by (repeat' first | exact List.forall_mem_nil _ | assumption | refine ne_cons (by k_ne) ?_)) (by (repeat' first | exact List.forall_mem_nil _ | assumption | refine ne_cons (by k_ne) ?_)) (row_add hrow (row_quoted _) (row_blank hb1 (by decide))) hax (quote_asc (by assumption)) s2.2 hxl hq9 s2.1 hrl hda (by assumption))
  case fin =>
    intro m nw h tk H
    refine InvRow.out m nw H ?_
    clear H
    intro x t u refs k tl o' due hsrc hT htD htl hrow hax hxl hrl hda m1 F N
    have hB := ‹Bd _ 6›
    have hB2 := hB.2
    have hB1 := hB.1
    have hxl' : x.length ≤ 182 := by omega
    (try ((show wpAny _ _ _ _ _ _); k_fold))
    k_steps
    have hT0 := ‹_ ∈ [Str.ofString "", Str.ofString " ", Str.ofString "!", Str.ofString "! \"a", Str.ofString " !b c"]›
    have htail := row_tail hT0 (by decide)
    k_dflt refine useL (row_words w x _ due _ _ _ (by omega) hax (strs_small hT0 (by decide)).2 hrow htail) ?_
    k_whole
    intro refs2 k2 l2 tl2 h2 tk2 F2 N2 hT2 hne2
    have N3 := News.rot1 N2
    dsimp only [List.cons_append, List.nil_append] at N3
    clear N2
    k_steps
    refine eq_same (reads_tupsN (by k_asm) (.head _) hT2 (fun p hp => by (repeat' first | assumption | exact List.mem_append_left _ (by with_reducible assumption) | exact List.mem_append_right _ (by with_reducible assumption) | refine List.Mem.tail _ ?_))) (reads_tupsN (by k_asm) (by k_mem) hT (fun p hp => by (repeat' first | assumption | exact List.mem_append_left _ (by with_reducible assumption) | exact List.mem_append_right _ (by with_reducible assumption) | refine List.Mem.tail _ ?_))) (shaped_words due hda) (words_noMix due) (by k_room) ?_
    k_steps
    try dsimp only
    try k_unfold
    try dsimp only
    exact hret _ [(l, _)] [] _ _ (Fr.keep (by assumption)) (out_news N3 (by simp only [List.nil_append, List.append_nil]; (repeat' first | exact List.forall_mem_nil _ | refine sub_cons (by k_mem) ?_ | (intro q hq; k_mem)))) (fun _ h => nomatch h) ⟨_, rfl, rfl, by assumption, rfl⟩
end
theorem fresh_G3 : True := by (w_top off); trivial
/-- parts of a path and how they are told -/
inductive Parts : List Value → List Str → Prop
  | nil : Parts [] []
  | str {p : Str} {t : Tok} {vs : List Value} {xs : List Str} : p ∈ [Str.ofString "port", Str.ofString "up", Str.ofString "a-b"] → Parts vs xs → Parts (.str p t :: vs) (p :: xs)
  | int {n : Int} {t : Tok} {vs : List Value} {xs : List Str} : n ∈ [(0 : Int), 7, 4094] → Parts vs xs → Parts (.int n t :: vs) (intS n :: xs)
theorem Parts.length {vs : List Value} {xs : List Str} (h : Parts vs xs) : vs.length = xs.length := by
  induction h with
  | nil => rfl
  | str _ _ ih => simp [ih]
  | int _ _ ih => simp [ih]
theorem Parts.app {vs ws : List Value} {xs ys : List Str} (h : Parts vs xs) (h2 : Parts ws ys) : Parts (vs ++ ws) (xs ++ ys) := by
  induction h with
  | nil => exact h2
  | str a _ ih => exact .str a ih
  | int a _ ih => exact .int a ih
theorem Parts.at {vs : List Value} {xs : List Str} (h : Parts vs xs) : ∀ {i : Nat} {v : Value}, vs[i]? = some v → (∃ p t, v = .str p t ∧ p ∈ [Str.ofString "port", Str.ofString "up", Str.ofString "a-b"] ∧ xs[i]? = some p) ∨ (∃ n t, v = .int n t ∧ n ∈ [(0 : Int), 7, 4094] ∧ xs[i]? = some (intS n)) := by
  induction h with
  | nil => intro i v h; cases h
  | @str p t vs xs a _ ih =>
    intro i v h
    cases i with
    | zero => cases h; exact .inl ⟨p, t, rfl, a, rfl⟩
    | succ i => exact ih h
  | @int n t vs xs a _ ih =>
    intro i v h
    cases i with
    | zero => cases h; exact .inr ⟨n, t, rfl, a, rfl⟩
    | succ i => exact ih h
theorem part_small {vs : List Value} {xs : List Str} (h : Parts vs xs) : ∀ x ∈ xs, x.length ≤ 10 := by
  induction h with
  | nil => exact fun _ h => nomatch h
  | str a _ ih =>
    intro x hx
    rcases List.mem_cons.mp hx with rfl | hx
    · exact (strs_small a (by decide)).1
    · exact ih x hx
  | int a _ ih =>
    intro x hx
    rcases List.mem_cons.mp hx with rfl | hx
    · refine intS_len ?_
      simp only [List.mem_cons, List.not_mem_nil, or_false] at a
      omega
    · exact ih x hx
theorem strs_step {xs : List Str} {ys : List Value} {i : Nat} {x : Str} {t : Tok} (h : StrsAre ys (xs.take i)) (hx : xs[i]? = some x) : StrsAre (ys ++ [.str x t]) (xs.take (i + 1)) := by
  rw [List.take_add_one, hx]
  exact strs_snoc h
def InvPt (xs : List Str) (led : Led) (i : Nat) (ys : List Value) (nw : Led) : Prop := nw = led ∧ StrsAre ys (xs.take i)
section
local macro_rules | `(tactic| walk_at "eval ListComp") => `(tactic| (k_here; k_dflt (refine comp_U (F₀ := by k_asm) (by with_unfolding_all rfl) (by decide) (by rfl) (by decide) (by rfl) ?_)))
theorem ptext_ok (w : World) (a : Addr) (vs : List Value) (xs : List Str) (hv : Parts vs xs) (hn : xs.length ≤ 100) :
    Spec0 w 118 [.ref a] [(a, tupO vs)] (fun v new => (∃ t : Tok, v = .str (Txt.join (Str.ofString " ") xs) t) ∧ new = []) False 12 200 := by
  have hvl := hv.length
  unfold Spec0 SpecG KK PR
  k_fill
  intro loose mean mg mb dp un gd envs base g s R B X T hk hsz hp hd hu hret hexc
  (k_dflt refine code_sep (h := ?_)); k_whole; intro L' h' tk' mp F' N'; (try dsimp only [List.nil_append, List.cons_append] at N'); intro ev Ar Mo; (try dsimp only); (try k_fold)
  k_steps
  refine ⟨_, _, _, _, walkt_tup (vs := vs) (l := a) rfl (by k_asm) (by k_mem), by rw [sizeLine_eq]; omega, by k_asm, by k_asm, by k_mem, fun gg => ?_⟩
  refine compU_ind (InvPt xs _) ⟨rfl, .nil⟩ ?_ ?_
  · rintro i ys nw v I oI C oC D m₂ h tk E' hi ⟨rfl, hys⟩ hP hC hx F N off ne
    rcases hv.at hP with ⟨p, t, rfl, hp, hxp⟩ | ⟨n, t, rfl, hn', hxn⟩
    · (try ((show wpAny _ _ _ _ _ _); k_fold))
      k_steps
      exact CompEnd.intro (by assumption) (by assumption) _ (fun _ h => h) off (.head _) ⟨rfl, strs_step hys hxp⟩
    · have hnb : 0 ≤ n ∧ n < 5000 := by
        simp only [List.mem_cons, List.not_mem_nil, or_false] at hn'
        omega
      (try ((show wpAny _ _ _ _ _ _); k_fold))
      k_steps
      exact CompEnd.intro (by assumption) (by assumption) _ (fun _ h => h) off (.head _) ⟨rfl, strs_step hys hxn⟩
  · rintro ys nw ⟨rfl, hys⟩ D h tk F9 N9 off9
    rw [hvl, List.take_length] at hys
    (try ((show wpAny _ _ _ _ _ _); k_fold))
    k_steps
    have hw := sum_len (f := fun x : Str => x) (k := 10) xs (part_small hv)
    rw [List.map_id'] at hw
    refine join_listW (N9.isList (.head _)) hys (by decide) (Nat.le_trans hw (by omega)) ?_
    intro t' k'
    try dsimp only
    try k_unfold
    try dsimp only
    exact hret _ [] [] _ _ (Fr.keep (by assumption)) (out_news N9 (by simp only [List.nil_append]; (repeat' first | exact List.forall_mem_nil _ | refine sub_cons (by k_mem) ?_ | (intro q hq; k_mem)))) (fun _ h => nomatch h) ⟨rfl, ⟨_, rfl⟩, rfl⟩
end
theorem fresh_G4 : True := by (w_top off); trivial
def isPart (v : Value) : Prop := (∃ p t, v = .str p t ∧ p ∈ [Str.ofString "port", Str.ofString "up", Str.ofString "a-b"]) ∨ ∃ n t, v = .int n t ∧ n ∈ [(0 : Int), 7, 4094]
theorem one_mixed (w : World) (l th : Addr) (o : Obj) (vs : List Value) (n : Nat) (ho : IsSrc o) (hv : ∀ v ∈ vs, isPart v) (ht : vs ≠ []) (hn : vs.length ≤ 5000) (hne : @Ne Nat th l) :
    Spec1 w 139 [.ref l, .ref th] l o [(th, listO vs n)] (fun v o' new => isPart v ∧ IsSrc o' ∧ new = []) False 5 50 := by
  have S := one_ok w l th o vs n ho ht hn hne
  unfold Spec1 SpecG at S ⊢
  intro loose mean mg mb dp un gd envs base g s R B X T hk hsz hp hd hu hret hexc
  exact S loose mean mg mb dp un gd envs base g s R B X T hk hsz hp hd hu (fun v upd new h' tk' a b c ⟨o', e, hv', z⟩ => hret v upd new h' tk' a b c ⟨o', e, hv v hv', z⟩) hexc
def allParts : List Value → Bool
  | [] => true
  | .str p _ :: r => [Str.ofString "port", Str.ofString "up", Str.ofString "a-b"].contains p && allParts r
  | .int n _ :: r => [(0 : Int), 7, 4094].contains n && allParts r
  | _ :: _ => false
theorem parts_of : ∀ (vs : List Value), allParts vs = true → ∀ v ∈ vs, isPart v
  | [], _, _, hv => nomatch hv
  | .str p t :: r, h, v, hv => by
    have h' := Bool.and_eq_true_iff.mp h
    rcases List.mem_cons.mp hv with rfl | hv
    · exact .inl ⟨p, t, rfl, List.contains_iff_mem.mp h'.1⟩
    · exact parts_of r h'.2 v hv
  | .int n t :: r, h, v, hv => by
    have h' := Bool.and_eq_true_iff.mp h
    rcases List.mem_cons.mp hv with rfl | hv
    · exact .inr ⟨n, t, rfl, List.contains_iff_mem.mp h'.1⟩
    · exact parts_of r h'.2 v hv
section
variable {w : World} {f : Addr} {vs : List Value} {rd led : Led} {d u : Nat} {A₀ A : Around} {base h₀ : Heap} {outer : List Env} {L : Addr} {m : Str → Option Value} {env : Env} {s : Shared} {Q E : Value → Shared → Prop}
  {loose : List Str} {mean : ExcName → Option Value} {mg mb : Str → Option Value} {l : Addr} {o : Obj} {gl : Obj → Led}
theorem use1M (S : Spec1 w f vs l o rd (fun v o' new => isPart v ∧ IsSrc o' ∧ new = []) False d u)
  (rets : ∀ p t o' h' tk', Fr h₀ L h' m → News h₀ L h' (gl o') → p ∈ [Str.ofString "port", Str.ofString "up", Str.ofString "a-b"] → IsSrc o' → Q (.str p t) { s with heap := h', toks := tk' })
  (reti : ∀ n t o' h' tk', Fr h₀ L h' m → News h₀ L h' (gl o') → n ∈ [(0 : Int), 7, 4094] → IsSrc o' → Q (.int n t) { s with heap := h', toks := tk' })
  (F : Fr h₀ L s.heap m := by k_asm) (N : News h₀ L s.heap led := by k_asm) (B : Below A₀ base outer h₀ := by k_asm) (X : (KK w).In h₀ := by k_asm) (T : Top topProg loose mean mg mb h₀ := by k_asm)
  (hA : A.frames = some (env :: outer) := by rfl) (hh : A.handled = none := by rfl) (hf : env.frame = some L := by rfl) (hke : env.scope.kind = .function := by rfl)
  (U : UpdF l o led gl := by k_updF) (hsub : SubL rd led := by k_subL) (hd : A.depth + d < recursionLimit := by k_room) (hu : A.units + u < cLine := by k_room) : wpAny (model PR w) A (call (.ref f) vs) Q E s :=
  spec_use1 S B F X N T hA hh hf hke U hsub hd hu (fun _ o' _ h' tk' F' N' _ ⟨p, r, e2⟩ => by
    subst e2
    rcases p with ⟨p, t, e, z⟩ | ⟨n, t, e, z⟩
    · subst e; exact rets p t o' h' tk' F' N' z r
    · subst e; exact reti n t o' h' tk' F' N' z r) (fun _ _ _ _ _ _ _ _ h => h.elim)
theorem useMixed {l th : Addr} {o : Obj} {vs : List Value} {k : Nat}
  (rets : ∀ p t o' h' tk', Fr h₀ L h' m → News h₀ L h' (gl o') → p ∈ [Str.ofString "port", Str.ofString "up", Str.ofString "a-b"] → IsSrc o' → Q (.str p t) { s with heap := h', toks := tk' })
  (reti : ∀ n t o' h' tk', Fr h₀ L h' m → News h₀ L h' (gl o') → n ∈ [(0 : Int), 7, 4094] → IsSrc o' → Q (.int n t) { s with heap := h', toks := tk' })
  (F : Fr h₀ L s.heap m := by k_asm) (N : News h₀ L s.heap led := by k_asm) (B : Below A₀ base outer h₀ := by k_asm) (X : (KK w).In h₀ := by k_asm) (T : Top topProg loose mean mg mb h₀ := by k_asm)
  (hA : A.frames = some (env :: outer) := by rfl) (hh : A.handled = none := by rfl) (hf : env.frame = some L := by rfl) (hke : env.scope.kind = .function := by rfl) (ho : IsSrc o := by assumption)
  (U : UpdF l o led gl := by k_updF) (hsub : SubL [(th, listO vs k)] led := by k_subL) (hd : A.depth + 5 < recursionLimit := by k_room) (hu : A.units + 50 < cLine := by k_room)
  (hv : allParts vs = true := by rfl) (ht : vs ≠ [] := by exact List.cons_ne_nil _ _) (hn : vs.length ≤ 5000 := by exact Nat.le_of_ble_eq_true (by rfl)) (hne : @Ne Nat th l := by k_ne) : wpAny (model PR w) A (call (.ref 139) [.ref l, .ref th]) Q E s :=
  use1M (one_mixed w l th o vs k ho (parts_of _ hv) ht hn hne) rets reti F N B X T hA hh hf hke U hsub hd hu
end
theorem in_names {p : Str} (h : p ∈ [Str.ofString "port", Str.ofString "up", Str.ofString "a-b"]) : ([Str.ofString "port", Str.ofString "up", Str.ofString "a-b"].any fun x => x == p) = true := by
  simp only [List.mem_cons, List.not_mem_nil, or_false] at h
  rcases h with rfl | rfl | rfl <;> decide
/-- the loop of _law_path_right -/
def InvPath (l P W : Addr) (m₀ : Str → Option Value) (i : Nat) (m : Str → Option Value) (nw : Led) : Prop :=
  ∃ u vp kp vw kw xs o', m = tm [Str.ofString "turn", Str.ofString "part"] u m₀ ∧ nw = [(l, o'), (P, listO vp kp), (W, listO vw kw)] ∧ IsSrc o' ∧ Parts vp xs ∧ StrsAre vw xs ∧ xs.length = i
@[elab_as_elim] theorem InvPath.out {l P W : Addr} {m₀ : Str → Option Value} {i : Nat} {G : (Str → Option Value) → Led → Prop} (m : Str → Option Value) (nw : Led) (H : InvPath l P W m₀ i m nw)
    (h : ∀ u vp kp vw kw xs o', IsSrc o' → Parts vp xs → StrsAre vw xs → xs.length = i → vp.length = i → vw.length = i → let m1 := tm [Str.ofString "turn", Str.ofString "part"] u m₀; G m1 [(l, o'), (P, listO vp kp), (W, listO vw kw)]) : G m nw := by
  obtain ⟨u, vp, kp, vw, kw, xs, o', rfl, rfl, h1, h2, h3, h4⟩ := H
  exact h u vp kp vw kw xs o' h1 h2 h3 h4 (by rw [h2.length, h4]) (by rw [StrsAre.length h3, h4])
theorem InvPath.next {l P W : Addr} {m₀ m u : Str → Option Value} {i kp kw : Nat} {vp vw : List Value} {xs : List Str} {o' : Obj} {v : Value} {y : Str} {t : Tok} (hm : m = tm [Str.ofString "turn", Str.ofString "part"] u m₀) (hs : IsSrc o') (hp : Parts (vp ++ [v]) (xs ++ [y])) (hw : StrsAre vw xs) (hx : xs.length = i) :
    InvPath l P W m₀ (i + 1) m [(l, o'), (P, listO (vp ++ [v]) kp), (W, listO (vw ++ [.str y t]) kw)] := ⟨u, _, _, _, _, xs ++ [y], o', hm, rfl, hs, hp, strs_snoc hw, by rw [List.length_append, hx]; rfl⟩
theorem mids_bd : ∀ n ∈ [(0 : Int), 7, 4094], 0 ≤ n ∧ n < 5000 := by decide
theorem parts_sum {vs : List Value} {xs : List Str} (h : Parts vs xs) : (xs.map (·.length)).sum + xs.length ≤ xs.length * 11 := by
  have hw9 := sum_len (f := fun x : Str => x) (k := 10) xs (part_small h)
  rwa [List.map_id'] at hw9
section
local macro_rules | `(tactic| walk_at "call ref") => `(tactic| (k_here; k_dflt refine useMixed ?_ ?_; all_goals (intros; k_sweep)))
local macro_rules | `(tactic| walk_at "call ref") => `(tactic| (with_reducible refine stop_call (n := 118) ?_))
local macro_rules | `(tactic| walk_at "exec For Name Call cons nil") => `(tactic| (k_here; with_unfolding_all refine For_invVF (by k_asm) (by exact rfl) (by exact rfl) ?_))
local macro_rules | `(tactic| walk_at "pyIter ref") => `(tactic| (with_reducible refine stop_iterV ?_))
theorem path_ok (w : World) (l : Addr) (o : Obj) (ho : IsSrc o) :
    Spec1 w 198 [.ref l] l o [] (fun v o' new => v = .bool true ∧ IsSrc o' ∧ new = []) False 30 500 := by
  unfold Spec1 SpecG KK PR
  k_fill
  intro loose mean mg mb dp un gd envs base g s R B X T hk hsz hp hd hu hret hexc
  (k_dflt refine code_sep (h := ?_)); k_whole; intro L' h' tk' mp F' N'; (try dsimp only [List.nil_append, List.cons_append] at N'); intro ev Ar Mo; (try dsimp only); (try k_fold)
  k_steps
  have hB := ‹Bd _ 4›
  have hB1 := hB.1
  have hB2 := hB.2
  refine' for_srcM (keep := []) (news := [(l, _), (?P, listO [] 0), (?W, listO [] 0)]) (InvPath l ?P ?W) ?F (News.sub (led := [_, (?W, W.listOf #[] 0), (?P, W.listOf #[] 0), (l, _)]) ?N ?sub) (src_range ?h1 ?h2 ?h3) (List.forall_mem_nil _) ?init ?turn ?fin
  case F => k_asm
  case N => k_asm
  case sub => (repeat' first | exact List.forall_mem_nil _ | refine sub_cons (by k_mem) ?_ | (intro q hq; k_mem))
  case h1 => rfl
  case h2 => assumption
  case h3 => exact small_bd (top := 10) ⟨by omega, by omega⟩ (by decide)
  case init => exact ⟨_, [], 0, [], 0, [], _, (tm_eq (by intro y hy; rfl)), rfl, ‹IsSrc _›, .nil, .nil, rfl⟩
  case turn =>
    intro I i v m nw it h tk hi hv Hi
    refine InvPath.out m nw Hi ?_
    clear Hi
    refine tok_of v hv ?_
    clear hv
    intro tv u vp kp vw kw xs o' hsrc hp hw hxl hpl hwl m1 hne hkeep F N
    repeat (have hx9 := (off_cons hne).1; replace hne := (off_cons hne).2; dsimp only at hx9)
    (try ((show wpAny _ _ _ _ _ _); k_fold))
    k_steps
    · exact TurnEnd.mk [(l, _), (_, listO (vp ++ [_]) (kp + 1)), (_, listO (vw ++ [_]) (kw + 1))] (by assumption) (by assumption) (by k_mem) (by (repeat' first | exact List.forall_mem_nil _ | refine sub_cons (by k_mem) ?_ | (intro q hq; k_mem))) (by (repeat' first | exact List.forall_mem_nil _ | assumption | refine ne_cons (by k_ne) ?_)) (List.forall_mem_nil _) (.next (by (refine tm_eq ?_; repeat' first | with_reducible exact mp_id | exact mp_tm | refine mp_cons (by k_mem) ?_ | exact mp_id)) (by assumption) (hp.app (.str (by assumption) .nil)) hw hxl)
    · have hh := in_names (by assumption)
      rw [‹(List.any _ _) = false›] at hh
      cases hh
    · have hn9 := ‹_ ∈ [(0 : Int), 7, 4094]›
      have hnb := mids_bd _ hn9
      refine in_made_int (News.isList (by k_asm) (by k_mem)) (.cons (.str _ _) (.cons (.str _ _) (.cons (.str _ _) .nil))) ?_
      (try dsimp only [List.any, datHitsInt, Bool.or_false])
      (try ((show wpAny _ _ _ _ _ _); k_fold))
      k_steps
      exact TurnEnd.mk [(l, _), (_, listO (vp ++ [_]) (kp + 1)), (_, listO (vw ++ [_]) (kw + 1))] (by assumption) (by assumption) (by k_mem) (by (repeat' first | exact List.forall_mem_nil _ | refine sub_cons (by k_mem) ?_ | (intro q hq; k_mem))) (by (repeat' first | exact List.forall_mem_nil _ | assumption | refine ne_cons (by k_ne) ?_)) (List.forall_mem_nil _) (.next (by (refine tm_eq ?_; repeat' first | with_reducible exact mp_id | exact mp_tm | refine mp_cons (by k_mem) ?_ | exact mp_id)) (by assumption) (hp.app (.int (by assumption) .nil)) hw hxl)
  case fin =>
    intro m nw h tk Hi
    refine InvPath.out m nw Hi ?_
    clear Hi
    intro u vp kp vw kw xs o' hsrc hp hw hxl hpl hwl m1 F N
    (try ((show wpAny _ _ _ _ _ _); k_fold))
    k_steps
    have hB := ‹Bd _ 4›
    have hB2 := hB.2
    have hB1 := hB.1
    k_dflt refine useS (ptext_ok w _ vp xs hp (by omega)) ?_
    k_whole
    intro t2 h2 tk2 F2 N2
    k_steps
    refine join_listW (News.isList (by k_asm) (by k_mem)) hw (by decide) (Nat.le_trans (parts_sum hp) (by omega)) ?_
    intro t3 k3
    k_steps
    have e : (Txt.join (Str.ofString " ") xs == Txt.join (Str.ofString " ") xs) = true := beq_self_eq_true _
    rw [e]
    exact hret _ [(l, _)] [] _ _ (Fr.keep (by assumption)) (out_news (by assumption) (by (repeat' first | exact List.forall_mem_nil _ | refine sub_cons (by k_mem) ?_ | (intro q hq; k_mem)))) (fun _ h => nomatch h) ⟨_, rfl, rfl, by assumption, rfl⟩
end
def wrongs : List Str := [Str.ofString "", Str.ofString ",", Str.ofString "1,", Str.ofString ",1", Str.ofString "5-3", Str.ofString "1,1", Str.ofString "3,2", Str.ofString "1-4,4", Str.ofString "1-2-3", Str.ofString "1-", Str.ofString "-1", Str.ofString "01", Str.ofString "a", Str.ofString "1 2", Str.ofString "10000000000", Str.ofString "0-5001"]
theorem wrongs_asc : ∀ b ∈ wrongs, ∀ c ∈ b.cps.toList, c < 128 := by decide
theorem wrongs_len : ∀ b ∈ wrongs, b.length ≤ 20 := by decide
theorem wrongs_none : ∀ b ∈ wrongs, numsOf b = none := by decide +kernel
theorem numbers_bad (w : World) (b : Str) (t t' : Tok) (row : Int) (hb : b ∈ wrongs) :
    Spec0 w 80 [.str b t, .int row t'] [] (fun _ _ => False) True 24 400 := by
  refine (numbers_ok w b t t' row (Nat.le_trans (wrongs_len b hb) (by decide)) (wrongs_asc b hb)).mono ?_ ?_
  · rintro v new ⟨ms, vs, l, h, -⟩
    rw [wrongs_none b hb] at h; cases h
  · intro _; trivial
theorem numbers_ten (w : World) (t t' : Tok) (row : Int) :
    Spec0 w 80 [.str (Str.ofString "9999999999") t, .int row t'] [] (fun v new => ∃ vs l, v = .ref l ∧ new = [(l, tupO vs)] ∧ IntsAre vs [9999999999]) False 24 400 := by
  have e : numsOf (Str.ofString "9999999999") = some [9999999999] := by decide +kernel
  refine (numbers_ok w _ t t' row (by decide) (asc_dec (by decide))).mono ?_ ?_
  · rintro v new ⟨ms, vs, l, h, e1, e2, h3⟩
    rw [e] at h; cases h
    exact ⟨vs, l, e1, e2, h3⟩
  · intro h; rw [e] at h; cases h
def quots : List Str := [Str.ofString "\"", Str.ofString "\"a", Str.ofString "\"a\\\"", Str.ofString "\"a\\b\"", Str.ofString "\"\\"]
theorem quots_asc : ∀ b ∈ quots, ∀ c ∈ b.cps.toList, c < 128 := by decide
theorem quots_len : ∀ b ∈ quots, b.length ≤ 20 := by decide
theorem quots_none : ∀ b ∈ quots, readL ((cp b).drop 1) = none := by decide +kernel
theorem quots_pos : ∀ b ∈ quots, 1 ≤ b.length := by decide
theorem quot_bad (w : World) (b : Str) (t t' t'' : Tok) (row : Int) (hb : b ∈ quots) :
    Spec0 w 68 [.str b t, .int 1 t', .int row t''] [] (fun _ _ => False) True 12 200 := by
  have hp := quots_pos b hb
  have hl := quots_len b hb
  refine (readq_ok w b t t' t'' 1 row (by omega) (quots_asc b hb) (by decide) (by omega)).mono ?_ ?_
  · rintro v new ⟨l, wd, r, t1, t2, h, -⟩
    rw [show (1 : Int).toNat = 1 from rfl, quots_none b hb] at h; cases h
  · intro _; trivial
theorem fresh_M2 : True := by (w_top off); trivial
/-- as SpecG, the ground is such that P -/
def SpecP (P : Heap → Prop) (w : World) (f : Addr) (vs : List Value) (pre rd : Led) (Ret : Value → Led → Led → Prop) (Exc : Prop) (d u : Nat) : Prop :=
  ∀ (loose : List Str) (mean : ExcName → Option Value) (mg mb : Str → Option Value) (dp un : Nat) (gd : Option (List Code)) (envs : List Env) (base g : Heap) (s : Shared) (R : Result → Shared → Prop),
    Below (arX dp un gd envs) base envs g → (KK w).In g → Top topProg loose mean mg mb g → P g →
    (∀ b o, g.get? b = some o → s.heap.get? b = some o) → Grown g s.heap →
    (∀ p ∈ pre ++ rd, s.heap.get? p.1 = some p.2 ∧ g.get? p.1 = none) →
    Room dp d recursionLimit → Room un u cLine →
    (∀ v upd new h' tk', (∀ b o, g.get? b = some o → h'.get? b = some o) → (∀ p ∈ upd ++ (new ++ rd), h'.get? p.1 = some p.2 ∧ g.get? p.1 = none) →
      (∀ p ∈ new, ∀ q ∈ pre ++ rd, q.1 ≠ p.1) → Ret v upd new → R (.ok (.ret v)) { s with heap := h', toks := tk' }) →
    (∀ e h' tk', RaisedSN base g envs e (.ref 52) [] h' → g.UpToSlots h' → Exc → R (.error (.ref e)) { s with heap := h', toks := tk' }) →
    codeAny (model PR w) (arX dp un gd envs) (.call (.ref f) ⟨vs, []⟩) R s
section
variable {w : World} {f : Addr} {vs : List Value} {pre rd led : Led} {Ret : Value → Led → Led → Prop} {Exc : Prop} {d u : Nat} {A₀ A : Around} {base h₀ : Heap} {outer : List Env} {L : Addr} {m : Str → Option Value} {env : Env} {s : Shared} {Q E : Value → Shared → Prop}
  {loose : List Str} {mean : ExcName → Option Value} {mg mb : Str → Option Value}
theorem spec_useP {P : Heap → Prop} (S : SpecP P w f vs pre rd Ret Exc d u) (hP : ∀ G : Heap, (∀ b o, h₀.get? b = some o → G.get? b = some o) → P G)
    (B : Below A₀ base outer h₀) (F : Fr h₀ L s.heap m) (X : (KK w).In h₀) (N : News h₀ L s.heap led) (T : Top topProg loose mean mg mb h₀)
    (hA : A.frames = some (env :: outer)) (hh : A.handled = none) (hf : env.frame = some L) (hke : env.scope.kind = .function)
    (hsub : ∀ p ∈ pre ++ rd, p ∈ led) (hd : A.depth + d < recursionLimit) (hu : A.units + u < cLine)
    (ret : ∀ v upd new h' tk', Fr h₀ L h' m → News h₀ L h' (upd ++ new) → (∀ q ∈ led, (∀ p ∈ pre, q.1 ≠ p.1) → h'.get? q.1 = some q.2 ∧ q.1 ≠ L ∧ h₀.get? q.1 = none) → (∀ p ∈ new, ∀ q ∈ led, q.1 ≠ p.1) → Ret v upd new → Q v { s with heap := h', toks := tk' })
    (exc : ∀ e g h' tk', Fr h₀ L g m → (∀ q ∈ led, (∀ p ∈ pre ++ rd, q.1 ≠ p.1) → g.get? q.1 = some q.2) → RaisedSN base g (env :: outer) e (.ref 52) [] h' → g.UpToSlots h' → Exc → E (.ref e) { s with heap := h', toks := tk' }) :
    wpAny (model PR w) A (call (.ref f) vs) Q E s := by
  have N1 : News h₀ L s.heap (pre ++ rd) := fun p hp => N p (hsub p hp)
  obtain ⟨FG, BG, st, -⟩ := groundX (R := fun _ _ => True) B F N1 hA hf hke
  obtain ⟨hd', dp, fr, gd, un⟩ := A
  dsimp only at hA hh hd hu
  subst hA hh
  generalize hG : hideAll s.heap ((pre ++ rd).map fun x : Addr × Obj => x.1) = G at *
  have inG : ∀ q ∈ led, (∀ p ∈ pre ++ rd, q.1 ≠ p.1) → G.get? q.1 = some q.2 := fun q hq hn => by
    rw [← hG]
    refine hideAll_get _ (N q hq).1 fun hm => ?_
    obtain ⟨p, hp, e⟩ := List.mem_map.mp hm
    exact hn p hp e.symm
  have outG : ∀ p ∈ pre ++ rd, s.heap.get? p.1 = some p.2 ∧ G.get? p.1 = none := fun p hp => by
    rw [← hG]
    exact ⟨(N1 p hp).1, hideAll_none _ (List.mem_map_of_mem hp)⟩
  refine wpAny_call ?_
  refine S loose mean mg mb dp un gd (env :: outer) base G s _ BG (X.keeps st) (T.keeps st) (hP _ st) (fun b o e => by rw [← hG] at e; exact of_hideAll _ e) (by rw [← hG]; exact Nat.le_of_eq (hideAll_size _ _)) outG hd hu ?_ ?_
  · intro v upd new h' tk' hk hp hnew hR
    obtain ⟨oL, es, ep, hL, hLr⟩ := FG.ns
    have off : ∀ b, G.get? b = none → b ≠ L ∧ h₀.get? b = none := fun b x2 => by
      refine ⟨fun e => ?_, ?_⟩
      · rw [e, hL] at x2; cases x2
      · cases q : h₀.get? b with
        | none => rfl
        | some o => rw [st _ _ q] at x2; cases x2
    have key : ∀ p ∈ upd ++ (new ++ rd), h'.get? p.1 = some p.2 ∧ p.1 ≠ L ∧ h₀.get? p.1 = none := fun p hp1 => ⟨(hp p hp1).1, off _ (hp p hp1).2⟩
    refine ret v upd new h' tk' ⟨⟨oL, es, ep, hk _ _ hL, hLr⟩, fun b o e => hk b o (st b o e), F.above⟩ (fun p hp' => ?_) (fun q hq hn => ?_) (fun p hp' q hq e => ?_) hR
    · rcases List.mem_append.mp hp' with h1 | h1
      · exact key p (List.mem_append_left _ h1)
      · exact key p (List.mem_append_right _ (List.mem_append_left _ h1))
    · refine ⟨?_, (N q hq).2⟩
      by_cases hx : ∃ p ∈ rd, q.1 = p.1
      · obtain ⟨p, hpr, e⟩ := hx
        have h1 := (N p (hsub p (List.mem_append_right _ hpr))).1
        have h2 := (N q hq).1
        rw [e, h1] at h2
        rw [e, (key p (List.mem_append_right _ (List.mem_append_right _ hpr))).1]
        exact h2
      · exact hk _ _ (inG q hq fun p hp' e => by
          rcases List.mem_append.mp hp' with h1 | h1
          · exact hn p h1 e
          · exact hx ⟨p, h1, e⟩)
    · by_cases hx : ∃ p ∈ pre ++ rd, q.1 = p.1
      · obtain ⟨p', hp'', e'⟩ := hx
        exact hnew p hp' p' hp'' (e'.symm.trans e)
      · have x2 := (hp p (List.mem_append_right _ (List.mem_append_left _ hp'))).2
        rw [← e, inG q hq fun p' hp'' e' => hx ⟨p', hp'', e'⟩] at x2; cases x2
  · intro e h' tk' hR hU hE
    exact exc e G h' tk' FG inG hR hU hE
end
theorem pool_g (w : World) (a : Addr) (vs : List Value) (ns : List Int) (hv : IntsAre vs ns) (hn : ns.length ≤ 63) :
    SpecP (fun g => g.IsList a vs.toArray) w 125 [.ref a] [] [] (fun v upd new => upd = [] ∧ ∃ l o, v = .ref l ∧ new = [(l, o)] ∧ IsSrc o) False 5 100 := by
  unfold SpecP KK PR
  k_fill
  intro loose mean mg mb dp un gd envs base g s R B X T lifted hk hsz hp hd hu hret hexc
  (k_dflt refine code_sep (h := ?_)); k_whole; intro L' h' tk' mp F' N'; (try dsimp only [List.nil_append, List.cons_append] at N'); intro ev Ar Mo; (try dsimp only); (try k_fold)
  k_steps
  all_goals try dsimp only
  all_goals try k_unfold
  all_goals try dsimp only
  all_goals refine hret _ [] [(_, _)] _ _ (Fr.keep (by assumption)) (out_news (by assumption) (fun _ h => h)) (fun _ _ _ h => nomatch h) ⟨rfl, _, _, rfl, rfl, _, _, _, _, _, rfl, ?_, Int.fmod_nonneg_of_pos _ (by decide), Int.fmod_lt_of_pos _ (by decide)⟩
  all_goals exact Int.mul_nonneg (by split <;> omega) (ite01 _)
theorem news_cons {h₀ h' : Heap} {L l : Addr} {o : Obj} {led : Led} (N : News h₀ L h' ([] ++ [(l, o)])) (hl : ∀ q ∈ led, (∀ p ∈ ([] : Led), q.1 ≠ p.1) → h'.get? q.1 = some q.2 ∧ q.1 ≠ L ∧ h₀.get? q.1 = none) : News h₀ L h' ((l, o) :: led) := fun p hp => by
  rcases List.mem_cons.mp hp with rfl | h
  · exact N _ (.head _)
  · exact hl p h (fun _ h => nomatch h)
theorem textAB (w : World) (x : Str) (t : Tok) (ps : Array Value) (cl : Led) (h : (ps = #[] ∧ cl = []) ∨ Full ps cl) (hx : x.length ≤ 100) (ha : Asc x) :
    SpecT w 184 [.str x t] [(179, tabObj ps)] cl (fun v upd new => v = .bool true ∧ ∃ ps' cl', upd = [(179, tabObj ps')] ∧ Full ps' cl' ∧ (∀ p ∈ cl', p ∈ new ++ cl) ∧ ∀ p ∈ new, p ∈ cl') 60 1000 := by
  rcases h with ⟨rfl, rfl⟩ | ⟨c, oc, c', oc', rfl, rfl, K1, K2⟩
  · exact textA w x t hx ha
  · exact textB w x t c c' oc oc' K1 K2 hx ha
section
variable {w : World} {A₀ A : Around} {base h₀ : Heap} {L : Addr} {m : Str → Option Value} {env : Env} {s : Shared} {Q E : Value → Shared → Prop}
  {loose : List Str} {mean : ExcName → Option Value} {mg mb : Str → Option Value}
theorem useText {x : Str} {t : Tok} {ps T : Array Value} {cl led : Led} {l I : Addr} {o it : Obj} (S : SpecT w 184 [.str x t] [(179, tabObj ps)] cl (fun v upd new => v = .bool true ∧ ∃ ps' cl', upd = [(179, tabObj ps')] ∧ Full ps' cl' ∧ (∀ p ∈ cl', p ∈ new ++ cl) ∧ ∀ p ∈ new, p ∈ cl') 60 1000)
  (n1 : @Ne Nat l 179) (n2 : @Ne Nat I 179) (c1 : ∀ p ∈ cl, @Ne Nat p.1 l) (c2 : ∀ p ∈ cl, @Ne Nat p.1 200) (c3 : ∀ p ∈ cl, @Ne Nat p.1 I) (c4 : ∀ p ∈ cl, @Ne Nat p.1 179)
  (ret : ∀ ps' cl' h' tk', Fr h₀ L h' m → News h₀ L h' ((I, it) :: (l, o) :: (179, tabObj ps') :: (200, tabObj T) :: cl') → Full ps' cl' → (∀ p ∈ cl', @Ne Nat p.1 l) → (∀ p ∈ cl', @Ne Nat p.1 200) → (∀ p ∈ cl', @Ne Nat p.1 I) → Q (.bool true) { s with heap := h', toks := tk' })
  (F : Fr h₀ L s.heap m := by k_asm) (N : News h₀ L s.heap led := by k_asm) (m1 : (l, o) ∈ led := by k_mem) (m2 : ((200 : Addr), tabObj T) ∈ led := by k_mem) (m3 : (I, it) ∈ led := by k_mem) (m4 : ((179 : Addr), tabObj ps) ∈ led := by k_mem) (hcl : ∀ p ∈ cl, p ∈ led := by (intro q hq; k_mem))
  (B : Below A₀ base [] h₀ := by k_asm) (XB : (KK w).In base := by k_asm) (TB : Top topProg loose mean mg mb base := by k_asm) (C : CodeHd base 183 179 := by assumption)
  (hA : A.frames = some [env] := by rfl) (hh : A.handled = none := by rfl) (hf : env.frame = some L := by rfl) (hke : env.scope.kind = .function := by rfl)
  (hd : A.depth + 60 < recursionLimit := by k_room) (hu : A.units + 1000 < cLine := by k_room) : wpAny (model PR w) A (call (.ref 184) [.str x t]) Q E s := by
  refine spec_useT0 S B F XB N TB C hA hh hf hke (fun p hp => ?_) hd hu ?_
  · rcases List.mem_append.mp hp with h | h
    · rw [List.mem_singleton.mp h]; exact m4
    · exact hcl p h
  · rintro _ _ new h' tk' F' N' hl hne ⟨rfl, ps', cl', rfl, hF, hin, -⟩
    have hl6 : ∀ q ∈ led, @Ne Nat q.1 179 → h'.get? q.1 = some q.2 ∧ q.1 ≠ L ∧ h₀.get? q.1 = none := fun q hq n => hl q hq (fun p hp => by rw [List.mem_singleton.mp hp]; exact n)
    have h7 : ∀ p ∈ cl', (@Ne Nat p.1 l ∧ @Ne Nat p.1 200 ∧ @Ne Nat p.1 I) ∧ h'.get? p.1 = some p.2 ∧ p.1 ≠ L ∧ h₀.get? p.1 = none := fun p hp => by
      rcases List.mem_append.mp (hin p hp) with h | h
      · exact ⟨⟨Ne.symm (hne p h _ m1), Ne.symm (hne p h _ m2), Ne.symm (hne p h _ m3)⟩, N' p (List.mem_append_right _ h)⟩
      · exact ⟨⟨c1 p h, c2 p h, c3 p h⟩, hl6 p (hcl p h) (c4 p h)⟩
    refine ret ps' cl' h' tk' F' (fun p hp => ?_) hF (fun p hp => (h7 p hp).1.1) (fun p hp => (h7 p hp).1.2.1) (fun p hp => (h7 p hp).1.2.2)
    rcases List.mem_cons.mp hp with rfl | hp
    · exact hl6 _ m3 n2
    rcases List.mem_cons.mp hp with rfl | hp
    · exact hl6 _ m1 n1
    rcases List.mem_cons.mp hp with rfl | hp
    · exact N' _ (.head _)
    rcases List.mem_cons.mp hp with rfl | hp
    · exact hl6 _ m2 (by show (200 : Nat) ≠ 179; decide)
    exact (h7 p hp).2
end
theorem fresh_M4 : True := by (w_top off); trivial
theorem worth_num (w : World) (D : Addr) (n : Int) (t t1 t2 t3 t4 : Tok) (h0 : 0 ≤ n) (h1 : n ≤ 1000000000) :
    Spec0 w 113 [.ref D, .int n t] [(D, tupO [.str (Str.ofString "number") t1, .int 0 t2, .int 9 t3, .int 1 t4])] (fun v new => (∃ t : Tok, v = .str (intS n) t) ∧ new = []) False 8 150 := by
  unfold Spec0 SpecG KK PR
  k_fill
  intro loose mean mg mb dp un gd envs base g s R B X T hk hsz hp hd hu hret hexc
  (k_dflt refine code_sep (h := ?_)); k_whole; intro L' h' tk' mp F' N'; (try dsimp only [List.nil_append, List.cons_append] at N'); intro ev Ar Mo; (try dsimp only); (try k_fold)
  k_steps
  all_goals (try dsimp only)
  all_goals (try k_unfold)
  all_goals (try dsimp only)
  all_goals exact hret _ [] [] _ _ (Fr.keep (by assumption)) (out_news (by assumption) (by simp only [List.nil_append]; (repeat' first | exact List.forall_mem_nil _ | refine sub_cons (by k_mem) ?_ | (intro q hq; k_mem)))) (fun _ h => nomatch h) ⟨rfl, ⟨_, rfl⟩, rfl⟩
theorem worth_on (w : World) (D : Addr) (t1 : Tok) :
    Spec0 w 113 [.ref D, .bool true] [(D, tupO [.str (Str.ofString "truth") t1])] (fun v new => (∃ t : Tok, v = .str (Str.ofString "on") t) ∧ new = []) False 8 150 := by
  unfold Spec0 SpecG KK PR
  k_fill
  intro loose mean mg mb dp un gd envs base g s R B X T hk hsz hp hd hu hret hexc
  (k_dflt refine code_sep (h := ?_)); k_whole; intro L' h' tk' mp F' N'; (try dsimp only [List.nil_append, List.cons_append] at N'); intro ev Ar Mo; (try dsimp only); (try k_fold)
  k_steps
  all_goals (try dsimp only)
  all_goals (try k_unfold)
  all_goals (try dsimp only)
  all_goals exact hret _ [] [] _ _ (Fr.keep (by assumption)) (out_news (by assumption) (by simp only [List.nil_append]; (repeat' first | exact List.forall_mem_nil _ | refine sub_cons (by k_mem) ?_ | (intro q hq; k_mem)))) (fun _ h => nomatch h) ⟨rfl, ⟨_, rfl⟩, rfl⟩
theorem worth_off (w : World) (D : Addr) (t1 : Tok) :
    Spec0 w 113 [.ref D, .bool false] [(D, tupO [.str (Str.ofString "truth") t1])] (fun v new => (∃ t : Tok, v = .str (Str.ofString "off") t) ∧ new = []) False 8 150 := by
  unfold Spec0 SpecG KK PR
  k_fill
  intro loose mean mg mb dp un gd envs base g s R B X T hk hsz hp hd hu hret hexc
  (k_dflt refine code_sep (h := ?_)); k_whole; intro L' h' tk' mp F' N'; (try dsimp only [List.nil_append, List.cons_append] at N'); intro ev Ar Mo; (try dsimp only); (try k_fold)
  k_steps
  all_goals (try dsimp only)
  all_goals (try k_unfold)
  all_goals (try dsimp only)
  all_goals exact hret _ [] [] _ _ (Fr.keep (by assumption)) (out_news (by assumption) (by simp only [List.nil_append]; (repeat' first | exact List.forall_mem_nil _ | refine sub_cons (by k_mem) ?_ | (intro q hq; k_mem)))) (fun _ h => nomatch h) ⟨rfl, ⟨_, rfl⟩, rfl⟩
theorem worth_word (w : World) (D : Addr) (a : Addr) (x : Str) (t t1 : Tok) :
    Spec0 w 113 [.ref D, .str x t] [(D, tupO [.str (Str.ofString "word") t1, .ref a])] (fun v new => (∃ t : Tok, v = .str x t) ∧ new = []) False 8 150 := by
  unfold Spec0 SpecG KK PR
  k_fill
  intro loose mean mg mb dp un gd envs base g s R B X T hk hsz hp hd hu hret hexc
  (k_dflt refine code_sep (h := ?_)); k_whole; intro L' h' tk' mp F' N'; (try dsimp only [List.nil_append, List.cons_append] at N'); intro ev Ar Mo; (try dsimp only); (try k_fold)
  k_steps
  all_goals (try dsimp only)
  all_goals (try k_unfold)
  all_goals (try dsimp only)
  all_goals exact hret _ [] [] _ _ (Fr.keep (by assumption)) (out_news (by assumption) (by simp only [List.nil_append]; (repeat' first | exact List.forall_mem_nil _ | refine sub_cons (by k_mem) ?_ | (intro q hq; k_mem)))) (fun _ h => nomatch h) ⟨rfl, ⟨_, rfl⟩, rfl⟩
theorem worth_name (w : World) (D : Addr) (x : Str) (t t1 : Tok) :
    Spec0 w 113 [.ref D, .str x t] [(D, tupO [.str (Str.ofString "name") t1])] (fun v new => (∃ t : Tok, v = .str x t) ∧ new = []) False 8 150 := by
  unfold Spec0 SpecG KK PR
  k_fill
  intro loose mean mg mb dp un gd envs base g s R B X T hk hsz hp hd hu hret hexc
  (k_dflt refine code_sep (h := ?_)); k_whole; intro L' h' tk' mp F' N'; (try dsimp only [List.nil_append, List.cons_append] at N'); intro ev Ar Mo; (try dsimp only); (try k_fold)
  k_steps
  all_goals (try dsimp only)
  all_goals (try k_unfold)
  all_goals (try dsimp only)
  all_goals exact hret _ [] [] _ _ (Fr.keep (by assumption)) (out_news (by assumption) (by simp only [List.nil_append]; (repeat' first | exact List.forall_mem_nil _ | refine sub_cons (by k_mem) ?_ | (intro q hq; k_mem)))) (fun _ h => nomatch h) ⟨rfl, ⟨_, rfl⟩, rfl⟩
theorem worth_truth (w : World) (D : Addr) (b : Bool) (t1 : Tok) :
    Spec0 w 113 [.ref D, .bool b] [(D, tupO [.str (Str.ofString "truth") t1])] (fun v new => (∃ t : Tok, v = .str (if b = true then Str.ofString "on" else Str.ofString "off") t) ∧ new = []) False 8 150 := by
  cases b
  · exact worth_off w D t1
  · exact worth_on w D t1
theorem reads_strsN {h₀ h : Heap} {L a : Addr} {led : Led} {vs : List Value} {k : Nat} {ds : List PyData} (N : News h₀ L h led) (hm : (a, listO vs k) ∈ led) (hc : CarriedAll vs ds) : Reads h (.ref a) (.list ds) [a] :=
  reads_list_at (N _ hm).1 rfl rfl (hc.reads h)
theorem intS_asc {n : Int} (h : 0 ≤ n) : Asc (intS n) := fun c hc => by
  have := intS_fig h c hc
  unfold isFig at this
  simp at this
  omega
theorem told_eq {w : World} {A : Around} {E : Value → Shared → Prop} {s : Shared} {Q : Value → Shared → Prop} {h₀ : Heap} {L a b : Addr} {led : Led} {n : Int} {B : Bool} {x : Str} {t1 t2 t3 t4 t5 t6 t7 t8 : Tok} {k k' : Nat} (N : News h₀ L s.heap led)
    (ha : (a, listO [.str (intS n) t1, .str (if B = true then Str.ofString "on" else Str.ofString "off") t2, .str (Str.ofString "off") t3, .str (Str.ofString "web-1") t4] k) ∈ led)
    (hb : (b, listO [.str (intS n) t5, .str x t6, .str (Str.ofString "off") t7, .str (Str.ofString "web-1") t8] k') ∈ led)
    (hx : (if B = true then Str.ofString "on" else Str.ofString "off") = x) (h0 : 0 ≤ n) (hu : A.units + 64 < cLine) (h : Q (.bool true) s) :
    wpAny (model PR w) A (compareOp .Eq (.ref a) (.ref b)) Q E s := by
  have hA : Asc x := by
    rw [← hx]
    cases B
    · exact asc_dec (by decide)
    · exact asc_dec (by decide)
  rw [hx] at ha
  refine eq_same (reads_strsN N ha (.cons (.str _ _) (.cons (.str _ _) (.cons (.str _ _) (.cons (.str _ _) .nil))))) (reads_strsN N hb (.cons (.str _ _) (.cons (.str _ _) (.cons (.str _ _) (.cons (.str _ _) .nil))))) ?_ ?_ hu h
  · simp [SeqAt.shaped, PyData.canLay0, PyData.canLayAll0, PyData.depth, PyData.depthAll, strOk_asc hA, strOk_asc (intS_asc h0), strOk_asc (show Asc (Str.ofString "off") from asc_dec (by decide)), strOk_asc (show Asc (Str.ofString "web-1") from asc_dec (by decide))]
  · simp [SeqAt.noMix, SeqAt.noMixAll]
theorem fresh_L1 : True := by (w_top off); trivial
abbrev qN : Str := Str.ofString "law" ++ Str.ofString ".<locals>." ++ Str.ofString "<lambda>"
abbrev tabW (c : Addr) : Array Value := #[rawInt 177, rawInt 24, .ref c]
abbrev tabW2 (c c' : Addr) : Array Value := #[rawInt 177, rawInt 24, .ref c, rawInt 182, rawInt 24, .ref c']
def TabW (i : Nat) (ps : Array Value) (cl : Led) : Prop := (i = 0 ∧ ps = #[] ∧ cl = []) ∨ (∃ c oc, ps = tabW c ∧ cl = [(c, oc)] ∧ CodeO qN c oc ∧ @Ne Nat c 200)
def InvW1 (cc : Addr) (m₀ : Str → Option Value) (i : Nat) (m : Str → Option Value) (nw : Led) : Prop :=
  m = m₀ ∧ ∃ oc ps cl, nw = (cc, oc) :: (179, tabObj #[]) :: (200, tabObj ps) :: cl ∧ (∃ v0, oc.data = .cell v0) ∧ TabW i ps cl
def InvW2 (k1 : Addr) (ok1 : Obj) (cc : Addr) (m₀ : Str → Option Value) (i : Nat) (m : Str → Option Value) (nw : Led) : Prop :=
  m = m₀ ∧ ∃ oc ps cl, nw = (cc, oc) :: (179, tabObj #[]) :: (200, tabObj ps) :: (k1, ok1) :: cl ∧ (∃ v0, oc.data = .cell v0) ∧ ((i = 0 ∧ ps = tabW k1 ∧ cl = []) ∨ (∃ c oc, ps = tabW2 k1 c ∧ cl = [(c, oc)] ∧ CodeO qN c oc ∧ @Ne Nat c 200 ∧ @Ne Nat k1 c))
def InvT5 (l : Addr) (T2 : Array Value) (m₀ : Str → Option Value) (i : Nat) (m : Str → Option Value) (nw : Led) : Prop :=
  ∃ u o ps cl, m = tm [Str.ofString "turn"] u m₀ ∧ nw = (l, o) :: (179, tabObj ps) :: (200, tabObj T2) :: cl ∧ IsSrc o ∧ ((i = 0 ∧ ps = #[] ∧ cl = []) ∨ (Full ps cl ∧ ∀ p ∈ cl, @Ne Nat p.1 l ∧ @Ne Nat p.1 200))
@[elab_as_elim] theorem InvW1.out {cc : Addr} {m₀ : Str → Option Value} {i : Nat} {G : (Str → Option Value) → Led → Prop} (m : Str → Option Value) (nw : Led) (H : InvW1 cc m₀ i m nw)
    (h0 : ∀ oc v0, i = 0 → oc.data = .cell v0 → G m₀ ((cc, oc) :: (179, tabObj #[]) :: (200, tabObj #[]) :: []))
    (h1 : ∀ oc v0 c o1 vs t, oc.data = .cell v0 → CodeO qN c o1 → @Ne Nat c 200 → o1.data = .fields vs → vs[1]? = some (.str qN t) → G m₀ ((cc, oc) :: (179, tabObj #[]) :: (200, tabObj (tabW c)) :: [(c, o1)])) : G m nw := by
  obtain ⟨rfl, oc, ps, cl, rfl, ⟨v0, ho⟩, ⟨e, rfl, rfl⟩ | ⟨c, o1, rfl, rfl, K, n⟩⟩ := H
  · exact h0 _ _ e ho
  · obtain ⟨vs, t, e1, e2⟩ := K.dat
    exact h1 _ _ _ _ _ _ ho K n e1 e2
@[elab_as_elim] theorem InvW2.out {k1 : Addr} {ok1 : Obj} {cc : Addr} {m₀ : Str → Option Value} {i : Nat} {G : (Str → Option Value) → Led → Prop} (m : Str → Option Value) (nw : Led) (H : InvW2 k1 ok1 cc m₀ i m nw)
    (h0 : ∀ oc v0, i = 0 → oc.data = .cell v0 → G m₀ ((cc, oc) :: (179, tabObj #[]) :: (200, tabObj (tabW k1)) :: (k1, ok1) :: []))
    (h1 : ∀ oc v0 c o1 vs t, oc.data = .cell v0 → CodeO qN c o1 → @Ne Nat c 200 → @Ne Nat k1 c → o1.data = .fields vs → vs[1]? = some (.str qN t) → G m₀ ((cc, oc) :: (179, tabObj #[]) :: (200, tabObj (tabW2 k1 c)) :: (k1, ok1) :: [(c, o1)])) : G m nw := by
  obtain ⟨rfl, oc, ps, cl, rfl, ⟨v0, ho⟩, ⟨e, rfl, rfl⟩ | ⟨c, o1, rfl, rfl, K, n, n2⟩⟩ := H
  · exact h0 _ _ e ho
  · obtain ⟨vs, t, e1, e2⟩ := K.dat
    exact h1 _ _ _ _ _ _ ho K n n2 e1 e2
@[elab_as_elim] theorem InvT5.out {l : Addr} {T2 : Array Value} {m₀ : Str → Option Value} {i : Nat} {G : (Str → Option Value) → Led → Prop} (m : Str → Option Value) (nw : Led) (H : InvT5 l T2 m₀ i m nw)
    (h : ∀ u o ps cl, IsSrc o → ((ps = #[] ∧ cl = []) ∨ Full ps cl) → (∀ p ∈ cl, @Ne Nat p.1 l) → (∀ p ∈ cl, @Ne Nat p.1 200) → (∀ p ∈ cl, @Ne Nat p.1 179) → let m1 := tm [Str.ofString "turn"] u m₀; G m1 ((l, o) :: (179, tabObj ps) :: (200, tabObj T2) :: cl)) : G m nw := by
  obtain ⟨u, o, ps, cl, rfl, rfl, hs, ⟨-, rfl, rfl⟩ | ⟨hF, hcl⟩⟩ := H
  · exact h u o #[] [] hs (.inl ⟨rfl, rfl⟩) (fun _ h => nomatch h) (fun _ h => nomatch h) (fun _ h => nomatch h)
  · refine h u o ps cl hs (.inr hF) (fun p hp => (hcl p hp).1) (fun p hp => (hcl p hp).2) ?_
    obtain ⟨b1, ob1, b2, ob2, rfl, rfl, A1, A2⟩ := hF
    intro p hp
    rcases List.mem_cons.mp hp with rfl | hp
    · exact A1.n1
    · rw [List.mem_singleton.mp hp]; exact A2.n1
theorem InvT5.next {l : Addr} {T2 ps : Array Value} {m₀ m u : Str → Option Value} {i : Nat} {o : Obj} {cl : Led} (hm : m = tm [Str.ofString "turn"] u m₀) (hs : IsSrc o) (hF : Full ps cl) (h1 : ∀ p ∈ cl, @Ne Nat p.1 l) (h2 : ∀ p ∈ cl, @Ne Nat p.1 200) :
    InvT5 l T2 m₀ i m ((l, o) :: (179, tabObj ps) :: (200, tabObj T2) :: cl) := ⟨u, o, ps, cl, hm, rfl, hs, .inr ⟨hF, fun p hp => ⟨h1 p hp, h2 p hp⟩⟩⟩
def FixG (h₀ : Heap) (r : (Str → Option Value) → Led → Prop) (g : Heap) (m : Str → Option Value) (nw : Led) : Prop := g = h₀ ∧ r m nw
theorem FixG.mk {h₀ : Heap} {r : (Str → Option Value) → Led → Prop} {m : Str → Option Value} {nw : Led} (h : r m nw) : FixG h₀ r h₀ m nw := ⟨rfl, h⟩
theorem for_fixS {prog : Program} {w : World} {A : Around} {E : Value → Shared → Prop} {env : Env} {target : PySem.Expr} {body : List Stmt} {Q : Flow → Shared → Prop} {s : Shared} {h₀ : Heap} {m : Str → Option Value} {led nw : Led} {l : Addr} {vs : List Value} {k : Nat} (bs : List Str) (Inv : (Str → Option Value) → Nat → (Str → Option Value) → Led → Prop) (F : Fr h₀ env.locals s.heap m) (N : News h₀ env.locals s.heap led) (hl : (l, listO vs k) ∈ led) (hb : StrsAre vs bs) (hs : ∀ p ∈ nw, p ∈ led) (hE : PassesOwn (model prog w) A env E) (hh : A.handled = none)
    (h0 : Inv m 0 m nw)
    (turn : let lv := vs
      ∀ I i it b tb m' nw' h tk, b ∈ bs → Inv m i m' nw' → @LT.lt Nat _ l I → (∀ p ∈ nw', @Ne Nat p.1 I) → Fr h₀ env.locals h m' → News h₀ env.locals h ((I, it) :: (l, listO lv k) :: nw') →
      let P := PostG env.locals { s with heap := h, toks := tk } I it (l, listO lv k) (FixG h₀ (Inv m (i + 1))) Q
      wpAny (model prog w) A (assign target env (.str b tb)) (fun _ s₂ => wpAny (model prog w) A (execs body env) P E s₂) E { s with heap := h, toks := tk })
    (fin : ∀ m' nw' h tk, Inv m vs.length m' nw' → Fr h₀ env.locals h m' → News h₀ env.locals h nw' → Q .next { s with heap := h, toks := tk }) :
    wpAny (model prog w) A (pyIter (.ref l)) (fun it s₂ => ForAt prog w A E env target body Q it s₂) E s := by
  refine for_strM bs (fun m i => FixG h₀ (Inv m i)) F N hl hb hs hE hh ⟨rfl, h0⟩ ?_ ?_
  · rintro lv I i it b tb g' m' nw' h tk hin ⟨rfl, hI⟩ a b c d
    exact turn I i it _ tb m' nw' h tk hin hI a b c d
  · rintro g' m' nw' h tk ⟨rfl, hI⟩ a b
    exact fin m' nw' h tk hI a b
theorem fr_pin {g h : Heap} {L : Addr} {m : Str → Option Value} (F : Fr g L h m) (x : Str) (v : Value) (hx : m x = some v) : ∃ mm : Str → Option Value, Fr g L h (fun y => if y = x then some v else mm y) := by
  refine ⟨m, ?_⟩
  have e : (fun y => if y = x then some v else m y) = m := by
    funext y
    by_cases hy : y = x
    · rw [if_pos hy, hy, hx]
    · rw [if_neg hy]
  rw [e]; exact F
theorem law_fold {M : Model} {A : Around} {env : Env} {body : List Stmt} {Q : Flow → Shared → Prop} {E : Value → Shared → Prop} {s : Shared} (h : let ev := env; let Ar := A; let Mo := M; let qk := Q; let ek := E; wpAny Mo Ar (execs body ev) qk ek s) : wpAny M A (execs body env) Q E s := h
theorem mine_iteF {P Q : Prop} (h : Q) : if false = true then P else Q := by rw [if_neg Bool.false_ne_true]; exact h
theorem mine_iteT {P Q : Prop} (h : P) : if true = true then P else Q := by rw [if_pos rfl]; exact h
section
local macro_rules | `(tactic| walk_at "ite") => `(tactic| first | with_reducible refine mine_iteF ?_ | with_reducible refine mine_iteT ?_)
local macro_rules | `(tactic| walk_at "call ref") => `(tactic| (with_reducible refine stop_other (by with_unfolding_all rfl) ?_))
local macro_rules | `(tactic| walk_at "compareOp Eq ref ref") => `(tactic| (k_here; refine Stop.mk ?_))
local macro_rules | `(tactic| walk_at "compareOp NotEq ref ref") => `(tactic| (k_here; refine Stop.mk ?_))
local macro_rules | `(tactic| walk_at "exec For Name BinOp cons nil") => `(tactic| (k_here; k_dflt refine for_start (by intro _; rfl) ?_))
local macro_rules | `(tactic| walk_at "exec For Name List cons nil") => `(tactic| (k_here; k_dflt refine for_start (by intro _; rfl) ?_))
local macro_rules | `(tactic| walk_at "pyIter ref") => `(tactic| (with_reducible refine stop_iterF ?_))
local macro_rules | `(tactic| walk_at "exec For Name Call cons nil") => `(tactic| (k_here; with_unfolding_all refine For_invVF (by k_asm) (by exact rfl) (by exact rfl) ?_))
local macro_rules | `(tactic| walk_at "pyIter ref") => `(tactic| (with_reducible refine stop_iterV ?_))
local macro_rules | `(tactic| walk_at "callWith ref") => `(tactic| (k_here; k_dflt (first | refine callWith_K (by k_asm) (by k_is) ?_ | refine callWith_K0 (by k_in) (by k_is) ?_)))
-- the library writes a twin, quadratic in size, for each great constant of the head; a name that is taken keeps it from that, and the kernel needs none
theorem law_ok.tw1111996730195266146 : True := trivial
theorem law_ok.tw16974778569080919699 : True := trivial
theorem law_ok.tw13592355976625468660 : True := trivial
theorem law_ok.tw424872976013949309 : True := trivial
theorem law_ok.tw1118051466851460078 : True := trivial
theorem law_ok.tw15540409714868719812 : True := trivial
theorem law_ok.tw18217159799144435692 : True := trivial
theorem law_ok.tw14046128299661152930 : True := trivial
theorem law_ok.tw5218299322290461412 : True := trivial
theorem law_ok.tw9965239266033092146 : True := trivial
theorem law_ok.tw10650354418473468792 : True := trivial
theorem law_ok.tw1540925781480086478 : True := trivial
theorem law_ok.tw15981648590296615016 : True := trivial
theorem law_ok.tw2899832004034143871 : True := trivial
theorem law_ok.tw3610314518991628617 : True := trivial
theorem law_ok.tw13545497429126178422 : True := trivial
theorem law_ok.tw10965555587067577654 : True := trivial
theorem law_ok.tw4864487941165642646 : True := trivial
theorem law_ok.tw3693212469901493656 : True := trivial
theorem law_ok.tw8667470147243138321 : True := trivial
theorem law_ok.tw219970694643851168 : True := trivial
theorem law_ok.tw9735917812164025410 : True := trivial
theorem law_ok.tw4932779659677404492 : True := trivial
theorem law_ok.tw443551138699594170 : True := trivial
theorem law_ok.tw9724848086193736465 : True := trivial
theorem law_ok.tw17908630626508599730 : True := trivial
theorem law_ok.tw6697676792893987622 : True := trivial
theorem law_ok.tw7781104154375679191 : True := trivial
theorem law_ok.tw8275342175473737420 : True := trivial
theorem law_ok.tw15247906133749373782 : True := trivial
theorem law_ok.tw6201013973285289104 : True := trivial
theorem law_ok.tw11811496802793099539 : True := trivial
theorem law_ok.tw11385112904435368647 : True := trivial
theorem law_ok.tw9557648855453342930 : True := trivial
theorem law_ok.tw695941549569141054 : True := trivial
theorem law_ok.tw11561936418431809499 : True := trivial
theorem law_ok.tw8909030923159015088 : True := trivial
theorem law_ok.tw11688280737032409427 : True := trivial
theorem law_ok.tw9675981739246116751 : True := trivial
theorem law_ok.tw5390954099367486457 : True := trivial
theorem law_ok.tw13786520517968327729 : True := trivial
theorem law_ok.tw10445056624341554395 : True := trivial
theorem law_ok.tw10372596584106923900 : True := trivial
theorem law_ok.tw2067928011667254438 : True := trivial
theorem law_ok.tw18338100588350115418 : True := trivial
theorem law_ok.tw16817230699459737761 : True := trivial
theorem law_ok.tw14145103849939954744 : True := trivial
theorem law_ok.tw327688865159038549 : True := trivial
theorem law_ok.tw15472547060870224796 : True := trivial
theorem law_ok.tw4954469535427822606 : True := trivial
theorem law_ok.tw8059405673493423855 : True := trivial
theorem law_ok.tw16779505384208271662 : True := trivial
theorem law_ok.tw18032699716851397758 : True := trivial
theorem law_ok.tw6075597756878948436 : True := trivial
theorem law_ok.tw4838971101024340215 : True := trivial
theorem law_ok.tw1532434094815970482 : True := trivial
theorem law_ok.tw14652604958342383117 : True := trivial
theorem law_ok.tw10459500480057450255 : True := trivial
theorem law_ok.tw656374543837170680 : True := trivial
theorem law_ok.tw3172467972640854061 : True := trivial
set_option Elab.async true in
theorem law_ok : PySem.Challenge.rw_xm0977_01.Holds := by
  w_on; o_law; o_head (kmHook Mine.k.heap_1 [2, 3, 15, 22, 24, 25, 27, 28, 29, 30, 31, 32, 35, 42, 43, 45, 46, 48, 49, 50, 51, 52, 55, 57, 58, 60, 61, 62, 64, 65, 67, 68, 69, 72, 73, 74, 76, 77, 79, 80, 81, 83, 84, 86, 87, 88, 90, 91, 93, 94, 95, 98, 99, 100, 102, 103, 105, 106, 107, 109, 110, 112, 113, 114, 117, 118, 119, 121, 122, 124, 125, 126, 128, 129, 131, 132, 133, 135, 136, 138, 139, 140, 142, 143, 145, 146, 147, 149, 150, 152, 153, 154, 157, 158, 159, 161, 162, 164, 165, 166, 169, 170, 171, 173, 174, 176, 177, 178, 180, 181, 183, 184, 185, 187, 188, 190, 191, 192, 194, 195, 197, 198, 199, 201, 202, 204, 205] (fun _ => by kernel_rfl) [179, 200]); (case hw => w_witness2)
  w_strict (
    k_go0
    refine law_fold ?_
    intro ev Ar Mo qk ek
    have hRd : Room callerA.depth 600 recursionLimit := by unfold Room; decide
    have hRu : Room callerA.units 5000 cLine := by unfold Room; decide
    k_steps
    have hIs := ‹IntsAre _ _›
    rename Obj.data _ = Data.cell _ => hdc
    have hcell := (⟨_, hdc⟩ : ∃ v0, Obj.data _ = Data.cell v0)
    clear hdc
    rename Dflts _ _ _ _ _ _ => hDf
    clear hDf
    rename Fr _ _ _ _ => hFr
    obtain ⟨mm, F9⟩ := fr_pin hFr (Str.ofString "script") (.ref _) (by rfl)
    clear hFr
    rename CellsAre _ _ _ => hX0
    clear hX0
    rename Heap.CodeRec _ _ _ => hcd9
    clear hcd9
    k_dflt refine useL (ranges_ok _ _ _ [1, 2, 4] (.cons _ _ (.cons _ _ (.cons _ _ .nil))) (by exact Nat.le_of_ble_eq_true rfl)) ?_
    k_whole
    intro refs kk l tl h' tk' F' N' hT htl
    replace N' := News.rot1 N'
    (try dsimp only [List.cons_append, List.nil_append] at N')
    k_steps
    have e9 : rangesF [1, 2, 4] = [(1, 2), (4, 4)] := by decide
    rw [e9] at hT
    refine ne_same (reads_tupsN (by k_asm) (by k_mem) hT (fun p hp => by (repeat' first | assumption | exact List.mem_append_left _ (by with_reducible assumption) | exact List.mem_append_right _ (by with_reducible assumption) | refine List.Mem.tail _ ?_))) (reads_tupsN (by k_asm) (by k_mem) (.cons (by k_mem) (.cons (.int _ _) (.cons (.int _ _) .nil)) (.cons (by k_mem) (.cons (.int _ _) (.cons (.int _ _) .nil)) .nil)) (fun p hp => hp)) (shaped_pairs _) (pairs_noMix _) (by k_room) ?_
    have N9 := News.sub (led' := [((_ : Nat) + 1, _), (179, tabObj #[]), (200, tabObj #[])]) (‹News _ _ _ _›) (by (repeat' first | exact List.forall_mem_nil _ | refine sub_cons (by k_mem) ?_ | (intro q hq; k_mem)))
    clear hT htl e9
    k_steps
    refine' for_fixS wrongs (led := _ :: _ :: _ :: (?cc, _) :: (179, tabObj #[]) :: (200, tabObj #[]) :: []) (nw := (?cc, _) :: (179, tabObj #[]) :: (200, tabObj #[]) :: []) (InvW1 ?cc) ?Fq ?Nq ?lq ?hbs ?sub ?Eq ?hh ?init ?turn ?fin
    case Fq => k_asm
    case Nq => k_asm
    case lq => exact .head _
    case hbs => repeat first | exact .nil | refine .cons _ _ ?_
    case sub => (repeat' first | exact List.forall_mem_nil _ | refine sub_cons (by k_mem) ?_ | (intro q hq; k_mem))
    case init => exact ⟨rfl, _, _, _, rfl, hcell, .inl ⟨rfl, rfl, rfl⟩⟩
    case Eq => first | passes_own | with_unfolding_all passes_own
    case hh => rfl
    case turn =>
      intro lv I i it b tb m' nw' h tk hb Hi
      refine InvW1.out m' nw' Hi ?_ ?_ <;> clear Hi
      · intro oc v0 _ ho1
        intro lI hne F N P
        (repeat (have hx9 := (off_cons hne).1; replace hne := (off_cons hne).2; dsimp only at hx9))
        (try ((show wpAny _ _ _ _ _ _); k_fold))
        k_steps
        rename_i f9 c9 oc9 vs9 t9 ct9 h9 tk9 F9 N9 d19 d29 l19 l29
        have hd1 := ‹Obj.data _ = Data.cell (some (Value.str b tb))›
        refine' useO0 (d := 30) (u := 600) ?Sq ⟨_, _, _, _, .head _⟩ ?ret F9 N9
        case Sq =>
          unfold SpecX KK PR
          k_fill
          intro loose mean mg mb dp un gd envs base g s R B X T hk hsz hp hd hu hret hexc
          refine' code_sepL T hk hsz hp (.head _) ⟨c9, oc9, _, _, rfl, (hp (c9, oc9) (by k_mem)).1, d19, d29⟩ ?hr ?hbq ?hlq ?_ ?z2 ?z3 ?z4 ?z5
          case hr => exact room_0 (by assumption)
          case hbq => rfl
          case hlq => exact locs rfl
          case z5 => decide
          case z2 => rfl
          case z3 => rfl
          case z4 => rfl
          intro L' h' mp F' N' ev Ar Mo
          (try dsimp only)
          (try ((show wpAny _ _ _ _ _ _); k_fold))
          k_steps
          refine' spec_useX (numbers_bad _ b _ _ _ hb) ?x1 ?x2 ?x3 ?x4 ?x5 ?y1 ?y2 ?y3 ?y4 ?y7 ?y8 (fun _ _ _ _ _ _ _ h => h.elim) ?_
          case x2 => k_asm
          case x4 => k_asm
          case x1 => k_asm
          case x3 => k_asm
          case x5 => k_asm
          case y1 => rfl
          case y2 => rfl
          case y3 => rfl
          case y4 => rfl
          case y7 => k_room
          case y8 => k_room
          intro e' g2' h2' tk2' FG2 R2 U2 _
          (try dsimp only)
          refine leave_onX B rfl rfl FG2 R2 U2 ?_
          intro h3' R3 U3
          exact hexc _ _ _ R3 U3 trivial
        case ret =>
          intro h' tk' F₂ N₃ 
          (try simp only [Array.empty_append, tabW, tab_app] at N₃)
          k_steps
          refine EndG.mk [(_, _), (179, tabObj #[]), (200, tabObj (tabW c9)), (c9, oc9)] (by assumption) (by assumption) (by k_mem) (by k_mem) ?sub ?ne (FixG.mk ⟨rfl, _, _, _, rfl, ⟨_, hd1⟩, .inr ⟨_, _, rfl, rfl, ⟨⟨_, _, d19, d29⟩, by k_ne⟩, by k_ne⟩⟩)
          case sub => (repeat' first | exact List.forall_mem_nil _ | refine sub_cons (by k_mem) ?_ | (intro q hq; k_mem))
          case ne => (repeat' first | exact List.forall_mem_nil _ | assumption | refine ne_cons (by k_ne) ?_)
      · intro oc v0 k1 ok1 vs1 t1 ho1 K1 kn2 dk1 dk2
        intro lI hne F N P
        have kn1 := K1.n1
        (repeat (have hx9 := (off_cons hne).1; replace hne := (off_cons hne).2; dsimp only at hx9))
        have hc1 := ne_all K1 N (by k_mem) (.tail _ (.tail _ (.head _))) ho1
        (try ((show wpAny _ _ _ _ _ _); k_fold))
        k_steps
        rename_i f9 ct9 h9 tk9 F9 N9 l19
        have hd1 := ‹Obj.data _ = Data.cell (some (Value.str b tb))›
        refine' useO0 (d := 30) (u := 600) ?Sq ⟨_, _, _, _, .head _⟩ ?ret F9 N9
        case Sq =>
          unfold SpecX KK PR
          k_fill
          intro loose mean mg mb dp un gd envs base g s R B X T hk hsz hp hd hu hret hexc
          refine' code_sepL T hk hsz hp (.head _) ⟨k1, ok1, _, _, rfl, (hp (k1, ok1) (by k_mem)).1, dk1, dk2⟩ ?hr ?hbq ?hlq ?_ ?z2 ?z3 ?z4 ?z5
          case hr => exact room_0 (by assumption)
          case hbq => rfl
          case hlq => exact locs rfl
          case z5 => decide
          case z2 => rfl
          case z3 => rfl
          case z4 => rfl
          intro L' h' mp F' N' ev Ar Mo
          (try dsimp only)
          (try ((show wpAny _ _ _ _ _ _); k_fold))
          k_steps
          refine' spec_useX (numbers_bad _ b _ _ _ hb) ?x1 ?x2 ?x3 ?x4 ?x5 ?y1 ?y2 ?y3 ?y4 ?y7 ?y8 (fun _ _ _ _ _ _ _ h => h.elim) ?_
          case x2 => k_asm
          case x4 => k_asm
          case x1 => k_asm
          case x3 => k_asm
          case x5 => k_asm
          case y1 => rfl
          case y2 => rfl
          case y3 => rfl
          case y4 => rfl
          case y7 => k_room
          case y8 => k_room
          intro e' g2' h2' tk2' FG2 R2 U2 _
          (try dsimp only)
          refine leave_onX B rfl rfl FG2 R2 U2 ?_
          intro h3' R3 U3
          exact hexc _ _ _ R3 U3 trivial
        case ret =>
          intro h' tk' F₂ N₃ 
          (try simp only [Array.empty_append, tabW, tab_app] at N₃)
          k_steps
          refine EndG.mk [(_, _), (179, tabObj #[]), (200, tabObj (tabW k1)), (k1, ok1)] (by assumption) (by assumption) (by k_mem) (by k_mem) ?sub ?ne (FixG.mk ⟨rfl, _, _, _, rfl, ⟨_, hd1⟩, .inr ⟨_, _, rfl, rfl, K1, kn2⟩⟩)
          case sub => (repeat' first | exact List.forall_mem_nil _ | refine sub_cons (by k_mem) ?_ | (intro q hq; k_mem))
          case ne => (repeat' first | exact List.forall_mem_nil _ | assumption | refine ne_cons (by k_ne) ?_)
    case fin =>
      intro m' nw' h tk Hi
      refine InvW1.out m' nw' Hi (fun _ _ e => absurd e (by simp)) ?_
      clear Hi
      intro oc v1 k1 ok1 vs1 t1 hcell0 K1 kn2 dk1 dk2 F N
      have hcell1 := (⟨_, hcell0⟩ : ∃ v0, Obj.data _ = Data.cell v0)
      clear dk1 dk2
      have kn1 := K1.n1
      k_steps
      k_dflt refine useN (numbers_ten _ _ _ _) ?_
      k_whole
      intro vs9 l9 h' tk' F' N' hI
      obtain ⟨t9, rfl⟩ : ∃ t, vs9 = [.int 9999999999 t] := by
        cases hI with | cons _ _ h => cases h; exact ⟨_, rfl⟩
      (try dsimp only [List.nil_append, List.cons_append] at N')
      k_whole
      k_steps
      refine ne_same (reads_tupN (by k_asm) (by k_mem) (.cons (.int _ _) .nil)) (reads_tupN (by k_asm) (by k_mem) (.cons (.int _ _) .nil)) (by rfl) (by simp [SeqAt.noMix, SeqAt.noMixAll]) (by k_room) ?_
      k_steps
      refine' for_fixS quots (led := _ :: _ :: _ :: (?cc2, _) :: (179, tabObj #[]) :: (200, tabObj (tabW k1)) :: (k1, ok1) :: []) (nw := (?cc2, _) :: (179, tabObj #[]) :: (200, tabObj (tabW k1)) :: (k1, ok1) :: []) (InvW2 k1 ok1 ?cc2) ?Fq ?Nq ?lq ?hbs ?sub ?Eq ?hh ?init ?turn ?fin
      case Fq => k_asm
      case Nq => k_asm
      case lq => exact .head _
      case hbs => repeat first | exact .nil | refine .cons _ _ ?_
      case sub => (repeat' first | exact List.forall_mem_nil _ | refine sub_cons (by k_mem) ?_ | (intro q hq; k_mem))
      case init => exact ⟨rfl, _, _, _, rfl, hcell1, .inl ⟨rfl, rfl, rfl⟩⟩
      case Eq => first | passes_own | with_unfolding_all passes_own
      case hh => rfl
      case turn =>
        intro lv I i it b tb m' nw' h tk hb Hi
        refine InvW2.out m' nw' Hi ?_ ?_ <;> clear Hi
        · intro oc v0 _ ho1
          intro lI hne F N P
          (repeat (have hx9 := (off_cons hne).1; replace hne := (off_cons hne).2; dsimp only at hx9))
          have hc1 := ne_all K1 N (by k_mem) (.tail _ (.tail _ (.head _))) ho1
          (try ((show wpAny _ _ _ _ _ _); k_fold))
          k_steps
          rename_i f9 c9 oc9 vs9 t9 ct9 h9 tk9 F9 N9 d19 d29 l19 l29
          have hd1 := ‹Obj.data _ = Data.cell (some (Value.str b tb))›
          refine' useO0 (d := 30) (u := 600) ?Sq ⟨_, _, _, _, .head _⟩ ?ret F9 N9
          case Sq =>
            unfold SpecX KK PR
            k_fill
            intro loose mean mg mb dp un gd envs base g s R B X T hk hsz hp hd hu hret hexc
            refine' code_sepL T hk hsz hp (.head _) ⟨c9, oc9, _, _, rfl, (hp (c9, oc9) (by k_mem)).1, d19, d29⟩ ?hr ?hbq ?hlq ?_ ?z2 ?z3 ?z4 ?z5
            case hr => exact room_0 (by assumption)
            case hbq => rfl
            case hlq => exact locs rfl
            case z5 => decide
            case z2 => rfl
            case z3 => rfl
            case z4 => rfl
            intro L' h' mp F' N' ev Ar Mo
            (try dsimp only)
            (try ((show wpAny _ _ _ _ _ _); k_fold))
            k_steps
            refine' spec_useX (quot_bad _ b _ _ _ _ hb) ?x1 ?x2 ?x3 ?x4 ?x5 ?y1 ?y2 ?y3 ?y4 ?y7 ?y8 (fun _ _ _ _ _ _ _ h => h.elim) ?_
            case x2 => k_asm
            case x4 => k_asm
            case x1 => k_asm
            case x3 => k_asm
            case x5 => k_asm
            case y1 => rfl
            case y2 => rfl
            case y3 => rfl
            case y4 => rfl
            case y7 => k_room
            case y8 => k_room
            intro e' g2' h2' tk2' FG2 R2 U2 _
            (try dsimp only)
            refine leave_onX B rfl rfl FG2 R2 U2 ?_
            intro h3' R3 U3
            exact hexc _ _ _ R3 U3 trivial
          case ret =>
            intro h' tk' F₂ N₃ 
            (try simp only [Array.empty_append, tabW, tab_app] at N₃)
            k_steps
            refine EndG.mk [(_, _), (179, tabObj #[]), (200, tabObj (tabW2 k1 c9)), (k1, ok1), (c9, oc9)] (by assumption) (by assumption) (by k_mem) (by k_mem) ?sub ?ne (FixG.mk ⟨rfl, _, _, _, rfl, ⟨_, hd1⟩, .inr ⟨_, _, rfl, rfl, ⟨⟨_, _, d19, d29⟩, by k_ne⟩, by k_ne, by k_ne⟩⟩)
            case sub => (repeat' first | exact List.forall_mem_nil _ | refine sub_cons (by k_mem) ?_ | (intro q hq; k_mem))
            case ne => (repeat' first | exact List.forall_mem_nil _ | assumption | refine ne_cons (by k_ne) ?_)
        · intro oc v0 k2 ok2 vs1 t1 ho1 K2 kn3 kn4 dk1 dk2
          intro lI hne F N P
          have kn5 := K2.n1
          (repeat (have hx9 := (off_cons hne).1; replace hne := (off_cons hne).2; dsimp only at hx9))
          have hc1 := ne_all K1 N (by k_mem) (.tail _ (.tail _ (.head _))) ho1
          have hc2 := ne_all K2 N (by k_mem) (.tail _ (.tail _ (.head _))) ho1
          (try ((show wpAny _ _ _ _ _ _); k_fold))
          k_steps
          rename_i f9 ct9 h9 tk9 F9 N9 l19
          have hd1 := ‹Obj.data _ = Data.cell (some (Value.str b tb))›
          refine' useO0 (d := 30) (u := 600) ?Sq ⟨_, _, _, _, .head _⟩ ?ret F9 N9
          case Sq =>
            unfold SpecX KK PR
            k_fill
            intro loose mean mg mb dp un gd envs base g s R B X T hk hsz hp hd hu hret hexc
            refine' code_sepL T hk hsz hp (.head _) ⟨k2, ok2, _, _, rfl, (hp (k2, ok2) (by k_mem)).1, dk1, dk2⟩ ?hr ?hbq ?hlq ?_ ?z2 ?z3 ?z4 ?z5
            case hr => exact room_0 (by assumption)
            case hbq => rfl
            case hlq => exact locs rfl
            case z5 => decide
            case z2 => rfl
            case z3 => rfl
            case z4 => rfl
            intro L' h' mp F' N' ev Ar Mo
            (try dsimp only)
            (try ((show wpAny _ _ _ _ _ _); k_fold))
            k_steps
            refine' spec_useX (quot_bad _ b _ _ _ _ hb) ?x1 ?x2 ?x3 ?x4 ?x5 ?y1 ?y2 ?y3 ?y4 ?y7 ?y8 (fun _ _ _ _ _ _ _ h => h.elim) ?_
            case x2 => k_asm
            case x4 => k_asm
            case x1 => k_asm
            case x3 => k_asm
            case x5 => k_asm
            case y1 => rfl
            case y2 => rfl
            case y3 => rfl
            case y4 => rfl
            case y7 => k_room
            case y8 => k_room
            intro e' g2' h2' tk2' FG2 R2 U2 _
            (try dsimp only)
            refine leave_onX B rfl rfl FG2 R2 U2 ?_
            intro h3' R3 U3
            exact hexc _ _ _ R3 U3 trivial
          case ret =>
            intro h' tk' F₂ N₃ 
            (try simp only [Array.empty_append, tabW, tab_app] at N₃)
            k_steps
            refine EndG.mk [(_, _), (179, tabObj #[]), (200, tabObj (tabW2 k1 k2)), (k1, ok1), (k2, ok2)] (by assumption) (by assumption) (by k_mem) (by k_mem) ?sub ?ne (FixG.mk ⟨rfl, _, _, _, rfl, ⟨_, hd1⟩, .inr ⟨_, _, rfl, rfl, K2, kn3, kn4⟩⟩)
            case sub => (repeat' first | exact List.forall_mem_nil _ | refine sub_cons (by k_mem) ?_ | (intro q hq; k_mem))
            case ne => (repeat' first | exact List.forall_mem_nil _ | assumption | refine ne_cons (by k_ne) ?_)
      case fin =>
        intro m' nw' h tk Hi
        refine InvW2.out m' nw' Hi (fun _ _ e => absurd e (by simp)) ?_
        clear Hi
        intro oc v2 k2 ok2 vs2 t2 _ K2 kn3 kn4 _ _ F N
        have kn5 := K2.n1
        k_steps
        refine' spec_useP (pool_g _ _ _ _ hIs ?s1) (fun G st => lifted.at (st _)) ?x1 ?x2 ?x3 ?x4 ?x5 ?y1 ?y2 ?y3 ?y4 ?y6 ?y7 ?y8 ?_ (fun _ _ _ _ _ _ _ _ h => h.elim)
        case s1 => omega
        case x2 => k_asm
        case x4 => k_asm
        case x1 => k_asm
        case x3 => k_asm
        case x5 => k_asm
        case y1 => rfl
        case y2 => rfl
        case y3 => rfl
        case y4 => rfl
        case y6 => exact fun _ h => nomatch h
        case y7 => k_room
        case y8 => k_room
        rintro _ _ _ h' tk' F' N' hl9 hoff ⟨rfl, l, o, rfl, rfl, hsrc⟩
        have N9 := news_cons N' hl9
        clear N' hl9
        have hoff := off1 hoff
        (repeat (have hx9 := (off_cons hoff).1; replace hoff := (off_cons hoff).2; dsimp only at hx9))
        k_whole
        k_steps
        refine' for_srcM (keep := []) (news := [(l, o), (179, tabObj #[]), (200, tabObj (tabW2 k1 k2))]) (InvT5 l (tabW2 k1 k2)) ?Fq (News.sub ?Nq ?sub) (src_range ?h1 ?h2 ?h3) (List.forall_mem_nil _) ?init ?turn ?fin
        case Fq => k_asm
        case Nq => k_asm
        case sub => (repeat' first | exact List.forall_mem_nil _ | refine sub_cons (by k_mem) ?_ | (intro q hq; k_mem))
        case h1 => rfl
        case h2 => assumption
        case h3 => first | decide | omega
        case init => exact ⟨_, _, _, _, (tm_eq (by intro y hy; rfl)), rfl, hsrc, .inl ⟨rfl, rfl, rfl⟩⟩
        case turn =>
          intro I i v m nw it h tk hi hv Hi
          refine tok_of v hv ?_
          clear hv
          intro tv
          refine InvT5.out m nw Hi ?_
          clear Hi
          intro u o' ps cl hsrc hst c1 c2 c4 m1 hne hkeep F N
          (repeat (have hx9 := (off_cons hne).1; replace hne := (off_cons hne).2; dsimp only at hx9))
          (try ((show wpAny _ _ _ _ _ _); k_fold))
          k_steps
          k_dflt refine use1A (lnums_ok _ _ _ hsrc) ?_
          k_whole
          intro a vs ns o2 h2 tk2 F2 N2 hof2 hI2 hn2 hr2 hs2
          (repeat (have hx9 := (off_cons hof2).1; replace hof2 := (off_cons hof2).2; dsimp only at hx9))
          k_whole
          k_steps
          k_dflt refine useV (nright_ok _ a vs ns hI2 hn2 hr2) ?_
          k_whole
          intro h3 tk3 F3 N3
          k_steps
          k_dflt refine useX (ltext_ok _ _ _ hs2) ?_
          k_whole
          intro x tx o4 h4 tk4 F4 N4 hx6 hxa hs4
          k_steps
          k_dflt refine useText (l := l) (I := I) (textAB _ x _ ps cl hst (by omega) hxa) (by k_ne) (by k_ne) c1 c2 hne c4 ?_
          k_whole
          intro ps' cl' h5 tk5 F5 N5 hF5 d1 d2 d3
          k_steps
          exact TurnEnd.mk ((l, o4) :: (179, tabObj ps') :: (200, tabObj (tabW2 k1 k2)) :: cl') (by assumption) (by assumption) (by k_mem) (by (repeat' first | exact List.forall_mem_nil _ | refine sub_cons (by k_mem) ?_ | (intro q hq; k_mem))) (by (repeat' first | exact List.forall_mem_nil _ | assumption | refine ne_cons (by k_ne) ?_)) (List.forall_mem_nil _) (.next (by (refine tm_eq ?_; repeat' first | with_reducible exact mp_id | exact mp_tm | refine mp_cons (by k_mem) ?_ | exact mp_id)) hs4 hF5 d1 d2)
        case fin =>
          intro m nw h tk Hi
          refine InvT5.out m nw Hi ?_
          clear Hi
          intro u o' ps cl hsrc _ _ _ _ m1 F N
          have N8 := News.sub (led' := [(l, o'), (179, tabObj ps), (200, tabObj (tabW2 k1 k2))]) N (by (repeat' first | exact List.forall_mem_nil _ | refine sub_cons (by k_mem) ?_ | (intro q hq; k_mem)))
          clear N
          k_steps
          k_dflt refine use1V (row_ok _ _ _ hsrc) ?_
          k_whole
          intro o7 h7 tk7 F7 N7 hs7
          k_steps
          k_dflt refine use1V (path_ok _ _ _ hs7) ?_
          k_whole
          intro o8 h8 tk8 F8 N8 hs8
          k_steps
          have hn9 := ‹_ ∈ [(0 : Int), 7, 10 ^ Int.toNat 9, _]›
          have hB9 := ‹Bd _ 5000›
          have hB8 := hB9.1
          have hB7 := hB9.2
          rw [show (10 : Int) ^ Int.toNat 9 = 1000000000 from by decide] at hn9
          simp only [List.mem_cons, List.not_mem_nil, or_false] at hn9
          k_dflt refine useS (worth_num _ _ _ _ _ _ _ _ (by omega) (by omega)) ?_
          k_whole
          intro tz1 p1 tq1 FF1 NN1
          k_steps
          k_dflt refine useS (worth_truth _ _ _ _) ?_
          k_whole
          intro tz2 p2 tq2 FF2 NN2
          k_steps
          k_dflt refine useS (worth_word _ _ _ _ _ _) ?_
          k_whole
          intro tz3 p3 tq3 FF3 NN3
          k_steps
          k_dflt refine useS (worth_name _ _ _ _ _) ?_
          k_whole
          intro tz4 p4 tq4 FF4 NN4
          k_steps
          · refine told_eq (by k_asm) (by k_mem) (by k_mem) (if_pos (by rw [beq_iff_eq]; assumption)) (by omega) (by k_room) ?_
            k_steps
          · refine told_eq (by k_asm) (by k_mem) (by k_mem) (if_neg (by rw [beq_iff_eq]; assumption)) (by omega) (by k_room) ?_
            k_steps)
end
end Mine
theorem PySem.Challenge.cw_xm0977_01_holds : PySem.Challenge.rw_xm0977_01.Holds :=
  Mine.law_ok
