import PyProof.Rows.All
import Wide.All
import OpenK.AllK
import Wide.FinOn
import HandS.ForMost
import HandS.ForExc
import HandS.Walk
import HandS.EndBits
import KE.KExcIs
import HandS.ExcIs
import HandS.Style
import HandS.TryOnly
import HandS.TupMul
import HandS.Wide
import HandS.WideBits
import HandS.TupAny
import HandS.IsInst
import HandS.Deep
import KE.DataMinMax
import KE.SortData
import KE.KTupSum
import KE.GoesNew
import KE.GoesMore
import HandS.Words
import HandS.WordsExc
import OpenK.KMore
import KE.IntBitsLaws
import PyProof.ReprLen
import PyProof.P3Eq
import KE.KItemsList
import HandS.ListItems
import HandS.Flow
import HandS.ExcInit
import HandS.ExcOwn
import KE.KExcInit
import HandS.ExcValue
import PySem.Challenge.RW_twinheaps_k91_errors_made
set_option Elab.async false
set_option linter.all false
set_option maxRecDepth 100000
set_option maxHeartbeats 4000000
namespace VI
open PySem PySem.Spec PyProof.Rows L2
/-- a def's promise, kept where nothing guards -/
structure FnG (P : Program) (W : World) (K : PySem.W.Frag) (mg : Str → Option Value) (base : Heap) (k : Nat) (f : Addr) (fd : FuncData) (ps : List Str) (sp : Sp) : Prop where
  len : ∀ vs H Q E, sp vs H Q E → vs.length = ps.length
  run : ∀ (A : Around) (out : List PySem.Env) (s : Shared) (H : Hp) (given : Args) (us : List Value) (vs : List V) (Q : VK) (E : XK), Room k A → A.guards = some [] → Env0 P W K mg base A out s H →
    BindsTo s fd given (ps.zip us) → Vals vs us → sp vs H Q E → codeAny (model P W) A (.call (.ref f) given) (CR (L2.CX P W) out P W H s Q E) s
theorem FnG.mono {P : Program} {W : World} {K : PySem.W.Frag} {mg : Str → Option Value} {base : Heap} {j k : Nat} {f : Addr} {fd : FuncData} {ps : List Str} {sp : Sp} (G : FnG P W K mg base j f fd ps sp) (h : j ≤ k) : FnG P W K mg base k f fd ps sp where
  len := G.len
  run := fun A out s H given us vs Q E hr => G.run A out s H given us vs Q E (hr.mono h)
section
variable {X : Cx} {k : Nat} {f : Addr} {fd : FuncData} {ps : List Str} {sp : Sp} {E : L2.St → XK} {x : Str} {p pos : Pos} {e : Expr} {es : List Expr} {t : TA}
/-- the body's own end, told to its caller -/
theorem cr_ends {pins : List (Addr × Obj)} {σ : L2.St} {H : Hp} {s : Shared} {Q : VK} {XE : XK} (I : Inv X pins σ H s) (hx : PassesAt (L2.CX X.prog X.w) X σ XE) {r : Result} {s' : Shared} (h : CR (L2.CX X.prog X.w) X.stack X.prog X.w H s Q XE r s') :
    (match r with | .ok (.ret u) => EP X pins σ Q u s' | .ok _ => False | .error z => X.xe z s') := by
  match r, h with
  | .ok (.ret u), h => exact I.after h
  | .ok .next, h => exact h
  | .ok .brk, h => exact h
  | .ok .cont, h => exact h
  | .error z, h => exact hx pins H s z s' I h
theorem pe_callG (G : FnG X.prog X.w X.K X.mg X.base k f fd ps sp) (hr : Room k X.A) (hu : X.A.guards = some []) (hg : Gl X x) (hm : X.mg x = some (.ref f)) (hk : PySem.W.keepIn X.K (.ref f) = true) (hb : Binds X.K fd ps []) (hx : ∀ σ, PassesAt (L2.CX X.prog X.w) X σ (E σ))
    (ha : PA X (e :: es) t) (hdb : (x == ("__debug__" : Str)) = false := by decide) (he : starEach (e :: es) X.env = (false, eval e X.env) :: starEach es X.env := by rfl) (hpl : (backTo pos (starEach es X.env)).any (·.1) = false := by rfl) :
    PE X (.Call (.Name x p) (e :: es) [] pos) (tCallS sp E t) where
  run := fun pins s σ H Q I h => wpAny_Call_Name_kw (ld_glob I hg hm (PySem.W.callWith_K (h₀ := X.base) I.ok.mod.kin hk (thn (ha.run pos pins s σ H _ I h) fun us s1 q => by
    obtain ⟨vs, H1, J, rv, hs⟩ := q
    refine ⟨J.kIn, ?_⟩
    have hl : us.length = ps.length := rv.length ▸ G.len _ _ _ _ hs
    have bb := hb s1 us J.kIn (by simpa using hl)
    simp only [List.append_nil] at bb
    refine wpAny_call (codeAny_mono (G.run X.A X.stack s1 H1 ⟨us, []⟩ us vs Q (E σ) hr hu J.env0 bb rv hs) fun r s2 hc => ?_)
    match r, hc with
    | .ok (.ret u), hc => exact cr_ends J (hx σ) hc
    | .ok .next, hc => exact False.elim hc
    | .ok .brk, hc => exact False.elim hc
    | .ok .cont, hc => exact False.elim hc
    | .error w, hc => exact cr_ends J (hx σ) hc) he hpl) hdb)
end
/-- the rule for a def of the text -/
theorem fn_ofG {P : Program} {W : World} {K : PySem.W.Frag} {mg : Str → Option Value} {base : Heap} {k : Nat} {f : Addr} {name qual : Str} {params : Arguments} {body : List Stmt} {scope : Scope} {dV kV doc pm cdv ct oc : Value} {an od : Option Addr}
    {osl : Array (Option Value)} {N ps : List Str} {sp : Sp} (lk : K.lookup f = some ⟨oc, od, .func (PySem.W.fnOf name qual params body scope dV kV doc pm an cdv ct), osl⟩) (hcd : PySem.W.codeIn K cdv qual = true) (S : FnScope N ps scope)
    (len : ∀ vs H Q E, sp vs H Q E → vs.length = ps.length)
    (hbody : ∀ (A : Around) (out : List PySem.Env) (s : Shared) (H : Hp) (vs : List V) (Q : VK) (E : XK), Room k (A.deeper (envOfC qual scope s.heap.objs.size f cdv)) → A.guards = some [] → sp vs H Q E →
      ∃ t, PSs (cxOf (L2.CX P W) P W K mg base N qual scope f cdv A out s H E) body t ∧ t { nx := fun _ H' => Q .non H', rt := Q } (L2.start N vs) H) :
    FnG P W K mg base (k + 1) f (PySem.W.fnOf name qual params body scope dV kV doc pm an cdv ct) ps sp where
  len := len
  run := by
    intro A out s H given us vs Q E hr hgd e0 bnd rv hsp
    have kin := e0.mod.kin.keeps fun b o z => (e0.bs b o z).1
    have lim := e0.mod.nolimit.keeps fun b o z => (e0.bs b o z).1
    have kinds : ∀ y ∈ ps.zip us, scope.names.lookup y.1 = some .local ∨ (scope.names.lookup y.1 = some .cell ∧ ((cellsFrom (s.heap.objs.size + 1) scope.names []).lookup y.1).isSome = true) := by
      intro y hy
      have hp := S.par y.1 (List.of_mem_zip (a := y.1) (b := y.2) hy).1
      exact hp.imp id fun q => ⟨q, PySem.W.cellsFrom_some _ _ _ (.inl q)⟩
    refine codeAny_call_function hr.depth (kin _ _ lk) rfl S.co S.gen rfl (PySem.W.codeRec_of kin hcd) (bnd _ _ _ _ (wpAny_newFunctionEnv_cells S.kind kinds ?_))
    intro env he s1 made
    cases he
    refine ⟨lim.keeps made.toInCall.keep, codeAny_func ?_⟩
    obtain ⟨t, ht, hq⟩ := hbody A out s H vs Q E (hr.deeper _) hgd hsp
    have J := inv_start (CX := L2.CX P W) (E := E) (H := H) S hr.hd e0 (len _ _ _ _ hsp) rv made
    refine wpAny_mono (ht.run [] s1 _ H _ J hq) ?_ fun _ _ z => z
    intro fl s2 hs
    have told : ∀ {σ2 : L2.St} {H2 : Hp} {v : V} {u : Value}, Inv (cxOf (L2.CX P W) P W K mg base N qual scope f cdv A out s H E) [] σ2 H2 s2 → RelV v u → Q v H2 → CE out P W H s Q u s2 := by
      intro σ2 H2 v u J2 r2 q2
      exact ⟨v, H2, J2.os, J2.bare, J2.base, J2.hok, r2, q2⟩
    match fl, hs with
    | .ret u, ⟨v, σ2, H2, J2, r2, q2⟩ => exact told J2 r2 q2
    | .next, ⟨σ2, H2, J2, q2⟩ => exact told (v := V.non) J2 rfl q2
    | .brk, ⟨_, _, _, q2⟩ => exact q2.elim
    | .cont, ⟨_, _, _, q2⟩ => exact q2.elim
theorem Fun.okG {P : Program} {W : World} {K : PySem.W.Frag} {mg : Str → Option Value} {base : Heap} {x qual : Str} {st : Stmt} {f : Addr} {fd : FuncData} {N ps : List Str} {k : Nat} {sp : Sp} (FF : Fun K x qual st f fd) (S : FnScope N ps (defScope st)) (len : ∀ vs H Q E, sp vs H Q E → vs.length = ps.length)
    (hbody : ∀ (cdv : Value) (A : Around) (out : List PySem.Env) (s : Shared) (H : Hp) (vs : List V) (Q : VK) (E : XK), Room k (A.deeper (envOfC qual (defScope st) s.heap.objs.size f cdv)) → A.guards = some [] → sp vs H Q E →
      ∃ t, PSs (cxOf (L2.CX P W) P W K mg base N qual (defScope st) f cdv A out s H E) (defBody st) t ∧ t { nx := fun _ H' => Q .non H', rt := Q } (L2.start N vs) H) : FnG P W K mg base (k + 1) f fd ps sp := by
  obtain ⟨oc, od, kV, doc, pm, an, cdv, ct, osl, rfl, lk, hcd⟩ := FF.ex
  exact fn_ofG lk hcd S len fun A out s H vs Q E => hbody cdv A out s H vs Q E
/-- the written part holds no list: the script is none of the module's own -/
def noLst (K : PySem.W.Frag) : Bool := K.all fun p => match p.2.cls with
  | .type n => n != "list"
  | _ => true
theorem lookup_mem {α β : Type} [BEq α] [LawfulBEq α] {l : List (α × β)} {a : α} {b : β} (h : l.lookup a = some b) : (a, b) ∈ l := by
  induction l with
  | nil => cases h
  | cons p r ih =>
    obtain ⟨c, d⟩ := p
    by_cases q : a = c
    · subst q
      simp only [List.lookup, beq_self_eq_true] at h
      cases h; exact List.mem_cons_self
    · have : (a == c) = false := by simpa using q
      simp only [List.lookup, this] at h
      exact List.mem_cons_of_mem _ (ih h)
theorem noLst_at {K : PySem.W.Frag} (h : noLst K = true) {a : Addr} {o : Obj} (e : K.lookup a = some o) : o.cls ≠ .type "list" := by
  intro z
  have := List.all_eq_true.mp h _ (lookup_mem e)
  simp only [z] at this
  simp at this
/-- the heap in which nothing is known but the script -/
def scriptHp (a : Addr) (o : Obj) (ns : List Int) : Hp := fun b => if b = a then some (.frz o (.lst (ns.map V.int))) else none
theorem scriptHp_at {a : Addr} {o : Obj} {ns : List Int} : scriptHp a o ns a = some (.frz o (.lst (ns.map V.int))) := if_pos rfl
theorem scriptHp_ne {a b : Addr} {o : Obj} {ns : List Int} (h : b ≠ a) : scriptHp a o ns b = none := if_neg h
def spLaw (n : Nat) : Sp := fun vs H Q _ => ∃ a o ns, vs = [.ref a] ∧ ns.length ≤ n ∧ (∀ k ∈ ns, Builtin.Int.intBits k ≤ 1048576) ∧ H = scriptHp a o ns ∧ ∀ H', Q (.bl true) H'
theorem law_end {l : PySem.W.OpenLaw} {n k : Nat} {q : Program} {loose : List Str} {XP : (Str → Option Value) → Heap → Prop} {YP : World → Heap → Prop} {d : DefRec} {K : Params → PySem.W.Frag} {x : Str}
    (hn : l.most = some n) (hn2 : n ≤ sizeLine) (hdf : d.params.defaults = []) (hr : Room k callerA) (hY : ∀ (w : World) (h : Heap), YP w h → (K w.params).In h) (hL : ∀ w : World, noLst (K w.params) = true)
    (F : ∀ (w : World) (mg : Str → Option Value) (fa : Addr) (h : Heap), (K w.params).In h → h.Ns mainGlobals mg → mg d.name = some (.ref fa) →
      ∃ fd : FuncData, Binds (K w.params) fd [x] [] ∧ ∀ base : Heap, (K w.params).In base → base.Ns mainGlobals mg → FnG l.prog w (K w.params) mg base k fa fd [x] (spLaw n)) :
    PySem.W.WalkO q loose XP YP l.row.toRowW d [] (fun f vs => PySem.call f vs) := by
  refine Att.attach_callB hn hdf fun w s₀ s1 mg mb fa o pm cd doc a vs ns G Y ho hd hcd hmg hobj hints hlen hbits hgen => ?_
  have kin := hY w _ Y
  obtain ⟨fd, hbnd, hF⟩ := F w mg fa _ kin G.T.g hmg
  have free : (K w.params).lookup a = none := by
    cases e : (K w.params).lookup a with
    | none => rfl
    | some o' =>
      have := kin _ _ e
      rw [hobj] at this
      cases this
      exact absurd rfl (noLst_at (hL w) e)
  -- the heap, the script locked
  generalize hob : ({ cls := .type "list", data := .seq vs.toArray } : Obj) = ob at hobj
  have sH : ∀ b u, scriptHp a ob ns b = some u → b = a ∧ u = .frz ob (.lst (ns.map V.int)) := by
    intro b u z
    by_cases hb : b = a
    · subst hb; rw [scriptHp_at] at z; exact ⟨rfl, (Option.some.inj z).symm⟩
    · rw [scriptHp_ne hb] at z; cases z
  have ok : HOk l.prog w (scriptHp a ob ns) s1.heap := by
    intro b u z
    obtain ⟨rfl, rfl⟩ := sH b u z
    exact ⟨hobj, by rw [List.length_map]; exact Nat.le_trans hlen hn2, vs, 0, L2.vals_ints hints, by rw [hobj, ← hob]⟩
  have shown : ∀ {b : Addr} {o : Obj}, s1.heap.get? b = some o → b ≠ a → (hidT s1.heap (scriptHp a ob ns)).get? b = some o := fun e n => hidT_get e (scriptHp_ne n)
  have dictNe : ∀ {b : Addr} {m : Str → Option Value}, s1.heap.Ns b m → b ≠ a := by
    rintro b m ⟨o, es, ep, e, dd, _⟩ rfl
    rw [hobj, ← hob] at e
    cases e
    cases dd
  have ns' : ∀ {b : Addr} {m : Str → Option Value}, s1.heap.Ns b m → (hidT s1.heap (scriptHp a ob ns)).Ns b m := by
    intro b m z
    have nb := dictNe z
    obtain ⟨o, es, ep, e, r⟩ := z
    exact ⟨o, es, ep, shown e nb, r⟩
  have kb : (K w.params).In (hidT s1.heap (scriptHp a ob ns)) := by
    intro b o e
    refine shown (kin b o e) ?_
    rintro rfl
    rw [free] at e; cases e
  have md : Mod (K w.params) mg (hidT s1.heap (scriptHp a ob ns)) :=
    { kin := kb, glob := ns' G.T.g, blt := ⟨mb, ns' G.T.b, G.T.builtins⟩, nolimit := by obtain ⟨mc, h1, h2⟩ := G.T.nolimit; exact ⟨mc, ns' h1, h2⟩ }
  have e0 : Env0 l.prog w (K w.params) mg (hidT s1.heap (scriptHp a ob ns)) callerA [] s1 (scriptHp a ob ns) :=
    { frames := rfl, mod := md, bs := fun b o e => of_hidT e, bsz := Nat.le_of_eq (hidT_size _ _), funs := trivial, frf := fun b hb => (by cases hb), hok := ok, bare := .of_eq hgen }
  refine codeAny_mono ((hF _ kb (ns' G.T.g)).run callerA [] s1 (scriptHp a ob ns) ⟨[.ref a], []⟩ [.ref a] [.ref a] (fun v _ => v = .bl true) (fun _ _ _ => False) hr rfl e0 (hbnd s1 [.ref a] kin rfl) (.cons rfl .nil) ⟨a, ob, ns, rfl, hlen, hbits, rfl, fun _ => rfl⟩) ?_
  intro r s2 h
  match r, h with
  | .error z, h => exact (by obtain ⟨_, _, _, _, _, _, _, _, _, _, _, _, zz⟩ := h; exact zz.elim)
  | .ok (.ret u), ⟨v, H', os, bare, un, hok', rv, qv⟩ =>
    have qv : v = .bl true := qv
    subst qv
    cases rv
    refine ⟨rfl, OldK.of_keep fun b o e => ?_, os, bare⟩
    by_cases hb : b = a
    · subst hb
      have z := hok' b _ (un.frzs b ob _ scriptHp_at)
      rw [hobj] at e; cases e
      exact z.1
    · exact un.keep b o e (scriptHp_ne hb) (fun z => by cases z) (fun z => by cases z)
end VI
set_option Elab.async false
set_option linter.all false
set_option maxRecDepth 100000
set_option maxHeartbeats 4000000
namespace VI
open PySem PySem.Spec PyProof.Rows L2
/-- an error of the class at C, its dict at d -/
def exk (a C d : Addr) : HO := .ext fun h => ∃ oe vs, h.get? a = some oe ∧ Zc (.ref C) (some d) oe ∧ oe.data = .fields vs
theorem exk_ok {P : Program} {w : World} {H : Hp} {h : Heap} {a C d : Addr} {oe : Obj} {vs : Array Value} (e : h.get? a = some oe) (z : Zc (.ref C) (some d) oe) (v : oe.data = .fields vs) : ObjOk P w H h a (exk a C d) :=
  ⟨⟨oe, vs, e, z, v⟩, ⟨_, e⟩, fun h1 h2 p k => by
    obtain ⟨o, ws, q, r⟩ := p
    exact ⟨o, ws, k _ q, r⟩⟩
theorem exk_at {P : Program} {w : World} {H : Hp} {h : Heap} {a C d : Addr} (hok : HOk P w H h) (e : H a = some (exk a C d)) : ∃ oe vs, h.get? a = some oe ∧ Zc (.ref C) (some d) oe ∧ oe.data = .fields vs := by
  have x : ObjOk P w H h a (.ext fun h => ∃ oe vs, h.get? a = some oe ∧ Zc (.ref C) (some d) oe ∧ oe.data = .fields vs) := hok a _ e
  exact x.1
/-- the base of an own class of error, by name -/
def excBase (n : Str) : String :=
  if n = "NoStone" ∨ n = "NoPlace" ∨ n = "NoNumber" ∨ n = "NoDeed" then "LookupError"
  else if n = "Unlike" ∨ n = "Odd" ∨ n = "Barred" then "RuntimeError"
  else if n = "TooMany" ∨ n = "Full" then "OverflowError" else "ValueError"
/-- the built-in classes that are asked for -/
def askedB : List String := ["int", "bool", "str", "list", "tuple", "LookupError", "ValueError", "RuntimeError", "OverflowError", "KeyError", "IndexError", "NotImplementedError"]
/-- the own classes of the written part, by name -/
def clsNm (K : PySem.W.Frag) (C : Addr) : Option Str := (PySem.W.clsIn K C).map (·.qualname)
/-- the fields of own errors -/
def excFlds : List Str := ["stone", "place", "number", "many", "heap", "other", "index", "at", "text", "stones"]
/-- what the written part says of an own class of error -/
structure ExK (K : PySem.W.Frag) (C : Addr) (n : Str) : Prop where
  nm : clsNm K C = some n
  ex : ExcC K C
  ty : PySem.W.typeIn K (.ref C) = some (.type "type")
  asked : ∀ T ∈ askedB, PySem.W.kitOne K (.ref C) (.type T) = some (decide (T = excBase n))
  fl : ∀ f ∈ excFlds, PySem.W.findIn K (.ref C) f = some none
  own : ∀ S m, clsNm K S = some m → PySem.W.typeIn K (.ref S) = some (.type "type") → PySem.W.subIn K (.ref C) (.ref S) = some (decide (n = m))
/-- keys of a dict, as data -/
def keyD : Key → PyData
  | .inl i => .int i
  | .inr s => .str s
def keysD (l : List Key) : PyData := .tuple (l.map keyD)
end VI
set_option Elab.async false
set_option linter.all false
set_option maxRecDepth 100000
set_option maxHeartbeats 4000000
namespace VI
open PySem PySem.Spec PyProof.Rows L2
abbrev D := PyData
abbrev Ext (H H' : Hp) : Prop := ∀ a o, H a = some o → H' a = some o
theorem Ext.refl (H : Hp) : Ext H H := fun _ _ h => h
theorem Ext.trans {H H1 H2 : Hp} (a : Ext H H1) (b : Ext H1 H2) : Ext H H2 := fun x o h => b x o (a x o h)
theorem Ext.new {H : Hp} {p : Addr} {o : HO} (h : H p = none) : Ext H (upd H p o) := fun a u e => by
  rw [upd_ne (ne_of_none e h)]; exact e
/-- an object that F does not know may change -/
theorem Ext.mut {F H : Hp} {p : Addr} {o : HO} (e : Ext F H) (h : F p = none) : Ext F (upd H p o) := fun a u ha => by
  rw [upd_ne (ne_of_none ha h)]; exact e a u ha
theorem Ext.free {H H' : Hp} {p : Addr} (e : Ext H H') (h : H' p = none) : H p = none := by
  cases h1 : H p with
  | none => rfl
  | some o => rw [e p o h1] at h; cases h
theorem Ext.both {F H : Hp} {p : Addr} {o : HO} (e : Ext F H) : Ext (upd F p o) (upd H p o) := fun a u ha => by
  by_cases hp : a = p
  · subst hp; rw [upd_same] at ha ⊢; exact ha
  · rw [upd_ne hp] at ha ⊢; exact e a u ha
theorem ext_rd {H H' : Hp} {a : Addr} {u : HO} (e : Ext H H') (h : Rd H a u) : Rd H' a u := by
  rcases h with h | ⟨o, h⟩
  · exact .inl (e a _ h)
  · exact .inr ⟨o, e a _ h⟩
variable {K : PySem.W.Frag}
theorem ext_t {H H' : Hp} {a : Addr} {xs : List V} (e : Ext H H') (h : H a = some (.tup xs)) : SqT K H' a xs := .inl (.inl (e _ _ h))
mutual
/-- data at a heap: lists that are tracked (or locked), tuples (the module's own too) -/
inductive Dp (K : PySem.W.Frag) (H : Hp) : V → PyData → Prop
  | non : Dp K H .non .none
  | bl (b : Bool) : Dp K H (.bl b) (.bool b)
  | int (i : Int) : Dp K H (.int i) (.int i)
  | str (x : Str) : Dp K H (.str x) (.str x)
  | lst {a : Addr} {xs : List V} {ds : List PyData} : Rd H a (.lst xs) → DpAll K H xs ds → Dp K H (.ref a) (.list ds)
  | tup {a : Addr} {xs : List V} {ds : List PyData} : H a = some (.tup xs) → DpAll K H xs ds → Dp K H (.ref a) (.tuple ds)
  | exc {a C d : Addr} {n : Str} {fs : List (Str × V)} {ds : List PyData} : ExK K C n → H a = some (exk a C d) → H d = some (.xd fs) → DpAll K H (fs.map (·.2)) ds → Dp K H (.ref a) (.dict ((.none, .str n) :: (fs.map fun p => PyData.str p.1).zip ds))
  | dcT {a : Addr} {od : Obj} {kvs : List (List Key × V)} {ds : List PyData} : H a = some (.frz od (.dT kvs)) → DpAll K H (kvs.map (·.2)) ds → Dp K H (.ref a) (.dict ((kvs.map fun p => keysD p.1).zip ds))
  | dcK {a : Addr} {od : Obj} {kvs : List (Key × V)} {ds : List PyData} : H a = some (.frz od (.dK kvs)) → DpAll K H (kvs.map (·.2)) ds → Dp K H (.ref a) (.dict ((.none, .none) :: (kvs.map fun p => keyD p.1).zip ds))
inductive DpAll (K : PySem.W.Frag) (H : Hp) : List V → List PyData → Prop
  | nil : DpAll K H [] []
  | cons {v : V} {vs : List V} {d : PyData} {ds : List PyData} : Dp K H v d → DpAll K H vs ds → DpAll K H (v :: vs) (d :: ds)
end
mutual
/-- no dict, no error within -/
def plainD : D → Bool
  | .none => true
  | .bool _ => true
  | .int _ => true
  | .str _ => true
  | .list ds => plainA ds
  | .tuple ds => plainA ds
  | .dict _ => false
def plainA : List D → Bool
  | [] => true
  | d :: ds => plainD d && plainA ds
end
mutual
theorem Dp.l2 {H : Hp} : ∀ {d : D} {v : V}, Dp K H v d → plainD d = true → L2.Dp K H v d
  | _, _, .non, _ => .non
  | _, _, .bl b, _ => .bl b
  | _, _, .int i, _ => .int i
  | _, _, .str x, _ => .str x
  | _, _, .lst h r, p => .lst (.inl h) (DpAll.l2 r (by unfold plainD at p; exact p))
  | _, _, .tup h r, p => .tup (.inl (.inl h)) (DpAll.l2 r (by unfold plainD at p; exact p))
  | _, _, .exc _ _ _ _, p => by unfold plainD at p; cases p
  | _, _, .dcT _ _, p => by unfold plainD at p; cases p
  | _, _, .dcK _ _, p => by unfold plainD at p; cases p
theorem DpAll.l2 {H : Hp} : ∀ {ds : List D} {vs : List V}, DpAll K H vs ds → plainA ds = true → L2.DpAll K H vs ds
  | _, _, .nil, _ => .nil
  | _, _, .cons h r, p => by
    unfold plainA at p
    rw [Bool.and_eq_true] at p
    exact .cons (Dp.l2 h p.1) (DpAll.l2 r p.2)
end
mutual
theorem plain_lay : ∀ d : D, d.canLay0 = true → plainD d = true
  | .none, _ => by unfold plainD; rfl
  | .bool _, _ => by unfold plainD; rfl
  | .int _, _ => by unfold plainD; rfl
  | .str _, _ => by unfold plainD; rfl
  | .list ds, h => by unfold plainD; unfold PyData.canLay0 at h; exact plainA_lay ds h
  | .tuple ds, h => by unfold plainD; unfold PyData.canLay0 at h; exact plainA_lay ds h
  | .dict _, h => by unfold PyData.canLay0 at h; cases h
theorem plainA_lay : ∀ ds : List D, PyData.canLayAll0 ds = true → plainA ds = true
  | [], _ => by unfold plainA; rfl
  | d :: ds, h => by
    unfold PyData.canLayAll0 at h
    rw [Bool.and_eq_true] at h
    unfold plainA
    rw [plain_lay d h.1, plainA_lay ds h.2]; rfl
end
theorem plain_shaped {d : D} (h : SeqAt.shaped d = true) : plainD d = true := by
  unfold SeqAt.shaped at h
  rw [Bool.and_eq_true] at h
  exact plain_lay d h.1
mutual
theorem plain_hd : ∀ d : D, d.hasDict = false → plainD d = true
  | .none, _ => by unfold plainD; rfl
  | .bool _, _ => by unfold plainD; rfl
  | .int _, _ => by unfold plainD; rfl
  | .str _, _ => by unfold plainD; rfl
  | .list ds, h => by unfold plainD; unfold PyData.hasDict at h; exact plainA_hd ds h
  | .tuple ds, h => by unfold plainD; unfold PyData.hasDict at h; exact plainA_hd ds h
  | .dict _, h => by unfold PyData.hasDict at h; cases h
theorem plainA_hd : ∀ ds : List D, PyData.hasDictAll ds = false → plainA ds = true
  | [], _ => by unfold plainA; rfl
  | d :: ds, h => by
    unfold PyData.hasDictAll at h
    rw [Bool.or_eq_false_iff] at h
    unfold plainA
    rw [plain_hd d h.1, plainA_hd ds h.2]; rfl
end
mutual
theorem Dp.ext {H H' : Hp} (e : Ext H H') : ∀ {d : D} {v : V}, Dp K H v d → Dp K H' v d
  | _, _, .non => .non
  | _, _, .bl b => .bl b
  | _, _, .int i => .int i
  | _, _, .str x => .str x
  | _, _, .lst h r => .lst (ext_rd e h) (DpAll.ext e r)
  | _, _, .tup h r => .tup (e _ _ h) (DpAll.ext e r)
  | _, _, .exc x h1 h2 r => .exc x (e _ _ h1) (e _ _ h2) (DpAll.ext e r)
  | _, _, .dcT h r => .dcT (e _ _ h) (DpAll.ext e r)
  | _, _, .dcK h r => .dcK (e _ _ h) (DpAll.ext e r)
theorem DpAll.ext {H H' : Hp} (e : Ext H H') : ∀ {ds : List D} {vs : List V}, DpAll K H vs ds → DpAll K H' vs ds
  | _, _, .nil => .nil
  | _, _, .cons h r => .cons (Dp.ext e h) (DpAll.ext e r)
end
theorem DpAll.length {H : Hp} : ∀ {vs : List V} {ds : List D}, DpAll K H vs ds → vs.length = ds.length
  | _, _, .nil => rfl
  | _, _, .cons _ r => by rw [List.length_cons, List.length_cons, r.length]
theorem DpAll.append {H : Hp} : ∀ {vs : List V} {ds : List D} {ws : List V} {es : List D}, DpAll K H vs ds → DpAll K H ws es → DpAll K H (vs ++ ws) (ds ++ es)
  | _, _, _, _, .nil, q => q
  | _, _, _, _, .cons h r, q => .cons h (DpAll.append r q)
theorem DpAll.get {H : Hp} : ∀ {vs : List V} {ds : List D} {i : Nat} {d : D}, DpAll K H vs ds → ds[i]? = some d → ∃ v, vs[i]? = some v ∧ Dp K H v d
  | _, _, _, _, .nil, e => by simp at e
  | _, _, 0, d, .cons h _, e => by simp at e; subst e; exact ⟨_, rfl, h⟩
  | _, _, i + 1, d, .cons _ r, e => by
    obtain ⟨v, h1, h2⟩ := DpAll.get (i := i) (d := d) r (by simpa using e)
    exact ⟨v, by simpa using h1, h2⟩
theorem DpAll.get' {H : Hp} : ∀ {vs : List V} {ds : List D} {i : Nat} {v : V}, DpAll K H vs ds → vs[i]? = some v → ∃ d, ds[i]? = some d ∧ Dp K H v d
  | _, _, _, _, .nil, e => by simp at e
  | _, _, 0, d, .cons h _, e => by simp at e; subst e; exact ⟨_, rfl, h⟩
  | _, _, i + 1, d, .cons _ r, e => by
    obtain ⟨v, h1, h2⟩ := DpAll.get' (i := i) (v := d) r (by simpa using e)
    exact ⟨v, by simpa using h1, h2⟩
theorem DpAll.take {H : Hp} : ∀ {vs : List V} {ds : List D} (n : Nat), DpAll K H vs ds → DpAll K H (vs.take n) (ds.take n)
  | _, _, 0, _ => .nil
  | _, _, _ + 1, .nil => .nil
  | _, _, n + 1, .cons h r => .cons h (DpAll.take n r)
theorem DpAll.drop {H : Hp} : ∀ {vs : List V} {ds : List D} (n : Nat), DpAll K H vs ds → DpAll K H (vs.drop n) (ds.drop n)
  | _, _, 0, r => r
  | _, _, _ + 1, .nil => .nil
  | _, _, n + 1, .cons _ r => DpAll.drop n r
theorem DpAll.set {H : Hp} {v : V} {d : D} (h : Dp K H v d) : ∀ {vs : List V} {ds : List D} (n : Nat), DpAll K H vs ds → DpAll K H (vs.set n v) (ds.set n d)
  | _, _, _, .nil => .nil
  | _, _, 0, .cons _ r => .cons h r
  | _, _, n + 1, .cons q r => .cons q (DpAll.set h n r)
theorem DpAll.reverse {H : Hp} {vs : List V} {ds : List D} (h : DpAll K H vs ds) : DpAll K H vs.reverse ds.reverse := by
  induction ds generalizing vs with
  | nil => cases h; exact .nil
  | cons d ds ih =>
    cases h with
    | cons a r =>
      rw [List.reverse_cons, List.reverse_cons]
      exact (ih r).append (.cons a .nil)
theorem DpAll.of_ints {H : Hp} : ∀ (ns : List Int), DpAll K H (ns.map V.int) (ns.map PyData.int)
  | [] => .nil
  | n :: ns => .cons (.int n) (DpAll.of_ints ns)
theorem DpAll.bls {H : Hp} : ∀ {ns : List Bool} {vs : List V}, DpAll K H vs (ns.map PyData.bool) → vs = ns.map V.bl
  | [], _, h => by cases h; rfl
  | n :: ns, _, h => by
    cases h with
    | cons a r => cases a; rw [DpAll.bls r]; rfl
/-- data whose first level may be a thing of our own (H), the rest lies still (F) -/
inductive Dh (K : PySem.W.Frag) (F H : Hp) : V → D → Prop
  | non : Dh K F H .non .none
  | bl (b : Bool) : Dh K F H (.bl b) (.bool b)
  | int (i : Int) : Dh K F H (.int i) (.int i)
  | str (x : Str) : Dh K F H (.str x) (.str x)
  | lst {a : Addr} {xs : List V} {ds : List D} : Rd H a (.lst xs) → DpAll K F xs ds → Dh K F H (.ref a) (.list ds)
  | tup {a : Addr} {xs : List V} {ds : List D} : F a = some (.tup xs) → DpAll K F xs ds → Dh K F H (.ref a) (.tuple ds)
  | oth {v : V} {kvs : List (D × D)} : Dp K F v (.dict kvs) → Dh K F H v (.dict kvs)
theorem Dp.dh {F H : Hp} (e : Ext F H) {v : V} {d : D} (h : Dp K F v d) : Dh K F H v d := by
  cases h with
  | non => exact .non
  | bl b => exact .bl b
  | int i => exact .int i
  | str x => exact .str x
  | lst h r => exact .lst (ext_rd e h) r
  | tup h r => exact .tup h r
  | exc x h1 h2 r => exact .oth (.exc x h1 h2 r)
  | dcT h r => exact .oth (.dcT h r)
  | dcK h r => exact .oth (.dcK h r)
theorem Dh.dp {F H : Hp} (e : Ext F H) {v : V} {d : D} (h : Dh K F H v d) : Dp K H v d := by
  cases h with
  | non => exact .non
  | bl b => exact .bl b
  | int i => exact .int i
  | str x => exact .str x
  | lst h r => exact .lst h (r.ext e)
  | tup h r => exact .tup (e _ _ h) (r.ext e)
  | oth h => exact h.ext e
theorem Dh.ext {F F' H H' : Hp} (e : Ext F F') (e' : Ext H H') {v : V} {d : D} (h : Dh K F H v d) : Dh K F' H' v d := by
  cases h with
  | non => exact .non
  | bl b => exact .bl b
  | int i => exact .int i
  | str x => exact .str x
  | lst h r => exact .lst (ext_rd e' h) (r.ext e)
  | tup h r => exact .tup (e _ _ h) (r.ext e)
  | oth h => exact .oth (h.ext e)
/-- a thing of our own, at every depth: data that lies still; a list; a dict; an instance of an own class -/
inductive OT where
  | fz (d : D)
  | lst (ts : List OT)
  | dT (ks : List (List Key)) (ts : List OT)
  | dK (ks : List Key) (ts : List OT)
  | ins (n : Str) (fs : List Str) (ts : List OT)
mutual
/-- t stands at v, made of the objects at fp (each once); its data lies still in F -/
inductive Ow (K : PySem.W.Frag) (F H : Hp) : OT → V → List Addr → Prop
  | fz {d : D} {v : V} : Dp K F v d → Ow K F H (.fz d) v []
  | lst {p : Addr} {ts : List OT} {vs : List V} {fp : List Addr} : H p = some (.lst vs) → OwL K F H ts vs fp → Ow K F H (.lst ts) (.ref p) (p :: fp)
  | dT {p : Addr} {ks : List (List Key)} {ts : List OT} {vs : List V} {fp : List Addr} : H p = some (.dT (ks.zip vs)) → ks.length = vs.length → OwL K F H ts vs fp → Ow K F H (.dT ks ts) (.ref p) (p :: fp)
  | dK {p : Addr} {ks : List Key} {ts : List OT} {vs : List V} {fp : List Addr} : H p = some (.dK (ks.zip vs)) → ks.length = vs.length → OwL K F H ts vs fp → Ow K F H (.dK ks ts) (.ref p) (p :: fp)
  | ins {p C dx : Addr} {n : Str} {fs : List Str} {ts : List OT} {vs : List V} {fp : List Addr} : clsNm K C = some n → H p = some (.ins C dx (fs.zip vs)) → H dx = some (.own p) → fs.length = vs.length → OwL K F H ts vs fp → Ow K F H (.ins n fs ts) (.ref p) (p :: dx :: fp)
inductive OwL (K : PySem.W.Frag) (F H : Hp) : List OT → List V → List Addr → Prop
  | nil : OwL K F H [] [] []
  | cons {t : OT} {v : V} {ts : List OT} {vs : List V} {f1 f2 : List Addr} : Ow K F H t v f1 → OwL K F H ts vs f2 → OwL K F H (t :: ts) (v :: vs) (f1 ++ f2)
end
theorem OwL.length {F H : Hp} : ∀ {ts : List OT} {vs : List V} {fp : List Addr}, OwL K F H ts vs fp → ts.length = vs.length
  | _, _, _, .nil => rfl
  | _, _, _, .cons _ r => by rw [List.length_cons, List.length_cons, r.length]
theorem zip_inj {α β : Type} : ∀ {ks : List α} {xs ys : List β}, ks.length = xs.length → ks.length = ys.length → ks.zip xs = ks.zip ys → xs = ys
  | [], [], [], _, _, _ => rfl
  | [], _ :: _, _, h, _, _ => by simp at h
  | [], [], _ :: _, _, h, _ => by simp at h
  | k :: ks, [], _, h, _, _ => by simp at h
  | k :: ks, _ :: _, [], _, h, _ => by simp at h
  | k :: ks, x :: xs, y :: ys, h, h', e => by
    simp only [List.zip_cons_cons, List.cons.injEq, Prod.mk.injEq] at e
    rw [e.1.2, zip_inj (by simpa using h) (by simpa using h') e.2]
mutual
/-- where it stands is told by the heap alone -/
theorem Ow.uniq {F F' H : Hp} : ∀ {t : OT} {v : V} {f1 f2 : List Addr}, Ow K F H t v f1 → Ow K F' H t v f2 → f1 = f2
  | _, _, _, _, .fz _, .fz _ => rfl
  | _, _, _, _, .lst h r, .lst h' r' => by
    rw [h] at h'; cases h'
    rw [OwL.uniq r r']
  | _, _, _, _, .dT h l r, .dT h' l' r' => by
    rw [h] at h'
    have := zip_inj l l' (by injection (Option.some.inj h'))
    subst this
    rw [OwL.uniq r r']
  | _, _, _, _, .dK h l r, .dK h' l' r' => by
    rw [h] at h'
    have := zip_inj l l' (by injection (Option.some.inj h'))
    subst this
    rw [OwL.uniq r r']
  | _, _, _, _, .ins _ h _ l r, .ins _ h' _ l' r' => by
    rw [h] at h'
    have q := Option.some.inj h'
    injection q with q1 q2 q3
    have := zip_inj l l' q3
    subst this; subst q2
    rw [OwL.uniq r r']
theorem OwL.uniq {F F' H : Hp} : ∀ {ts : List OT} {vs : List V} {f1 f2 : List Addr}, OwL K F H ts vs f1 → OwL K F' H ts vs f2 → f1 = f2
  | _, _, _, _, .nil, .nil => rfl
  | _, _, _, _, .cons h r, .cons h' r' => by rw [Ow.uniq h h', OwL.uniq r r']
end
mutual
theorem Ow.ext {F F' H H' : Hp} (E : Ext F F') : ∀ {t : OT} {v : V} {fp : List Addr}, Ow K F H t v fp → (∀ a ∈ fp, H' a = H a) → Ow K F' H' t v fp
  | _, _, _, .fz q, _ => .fz (q.ext E)
  | _, _, _, .lst h r, k => .lst ((k _ List.mem_cons_self).trans h) (OwL.ext E r fun a ha => k a (List.mem_cons_of_mem _ ha))
  | _, _, _, .dT h l r, k => .dT ((k _ List.mem_cons_self).trans h) l (OwL.ext E r fun a ha => k a (List.mem_cons_of_mem _ ha))
  | _, _, _, .dK h l r, k => .dK ((k _ List.mem_cons_self).trans h) l (OwL.ext E r fun a ha => k a (List.mem_cons_of_mem _ ha))
  | _, _, _, .ins c h h2 l r, k => .ins c ((k _ List.mem_cons_self).trans h) ((k _ (List.mem_cons_of_mem _ List.mem_cons_self)).trans h2) l (OwL.ext E r fun a ha => k a (List.mem_cons_of_mem _ (List.mem_cons_of_mem _ ha)))
theorem OwL.ext {F F' H H' : Hp} (E : Ext F F') : ∀ {ts : List OT} {vs : List V} {fp : List Addr}, OwL K F H ts vs fp → (∀ a ∈ fp, H' a = H a) → OwL K F' H' ts vs fp
  | _, _, _, .nil, _ => .nil
  | _, _, _, .cons h r, k => .cons (Ow.ext E h fun a ha => k a (List.mem_append_left _ ha)) (OwL.ext E r fun a ha => k a (List.mem_append_right _ ha))
end
mutual
theorem Ow.some {F H : Hp} : ∀ {t : OT} {v : V} {fp : List Addr}, Ow K F H t v fp → ∀ a ∈ fp, H a ≠ none
  | _, _, _, .fz _, a, h => by cases h
  | _, _, _, .lst h r, a, ha => by
    rcases List.mem_cons.mp ha with rfl | ha
    · rw [h]; exact fun z => by cases z
    · exact OwL.some r a ha
  | _, _, _, .dT h _ r, a, ha => by
    rcases List.mem_cons.mp ha with rfl | ha
    · rw [h]; exact fun z => by cases z
    · exact OwL.some r a ha
  | _, _, _, .dK h _ r, a, ha => by
    rcases List.mem_cons.mp ha with rfl | ha
    · rw [h]; exact fun z => by cases z
    · exact OwL.some r a ha
  | _, _, _, .ins _ h h2 _ r, a, ha => by
    rcases List.mem_cons.mp ha with rfl | ha
    · rw [h]; exact fun z => by cases z
    · rcases List.mem_cons.mp ha with rfl | ha
      · rw [h2]; exact fun z => by cases z
      · exact OwL.some r a ha
theorem OwL.some {F H : Hp} : ∀ {ts : List OT} {vs : List V} {fp : List Addr}, OwL K F H ts vs fp → ∀ a ∈ fp, H a ≠ none
  | _, _, _, .nil, a, h => by cases h
  | _, _, _, .cons h r, a, ha => by
    rcases List.mem_append.mp ha with ha | ha
    · exact Ow.some h a ha
    · exact OwL.some r a ha
end
/-- what a name holds: data that lies still; a list of our own; one that is being walked; one that was handed in and may be changed -/
inductive Sv where
  | fz (d : D)
  | own (ds : List D)
  | lent (ds : List D)
  | io (ds : List D)
  | tr (io : Bool) (t : OT)
abbrev Env := List (Option Sv)
def Sv.mu : Sv → Bool
  | .own _ => true
  | .io _ => true
  | _ => false
/-- M: what others own (as in G); lam: where the lent (Ml) and the handed in lists stand -/
structure Cf where
  M : Addr → Prop
  G : Hp
  lam : Nat → Addr
  Ml : Nat → Prop
/-- F: what lies still; M: what others own (as in G); lam: where the lent and the handed in lists stand -/
def SvR (K : PySem.W.Frag) (C : Cf) (F H : Hp) (i : Nat) : Sv → V → Prop
  | .fz d, v => Dp K F v d
  | .own ds, v => ∃ p vs, v = .ref p ∧ H p = some (.lst vs) ∧ DpAll K F vs ds ∧ F p = none ∧ ¬ C.M p
  | .lent ds, v => ∃ vs, v = .ref (C.lam i) ∧ H (C.lam i) = some (.lst vs) ∧ DpAll K F vs ds ∧ C.Ml i
  | .io ds, v => ∃ vs, v = .ref (C.lam i) ∧ H (C.lam i) = some (.lst vs) ∧ DpAll K F vs ds ∧ F (C.lam i) = none ∧ ¬ C.M (C.lam i)
  | .tr b t, v => ∃ fp, Ow K F H t v fp ∧ fp.Nodup ∧ (∀ a ∈ fp, F a = none ∧ ¬ C.M a) ∧ (b = true → v = .ref (C.lam i) ∧ C.lam i ∈ fp)
/-- the thing at slot i is made of the objects at fp -/
def TrAt (K : PySem.W.Frag) (H : Hp) (e : Env) (σ : L2.St) (i : Nat) (fp : List Addr) : Prop := ∃ b t v F', e[i]? = some (some (.tr b t)) ∧ σ[i]? = some (some v) ∧ Ow K F' H t v fp
/-- no changeable name but those that i lies in stands at p -/
def Apart (e : Env) (σ : L2.St) (v : V) : Prop := ∀ (i : Nat) (x : Sv), e[i]? = some (some x) → x.mu = true → σ[i]? ≠ some (some v)
/-- .. nor is a thing of our own made of it -/
def ApT (K : PySem.W.Frag) (H : Hp) (e : Env) (σ : L2.St) (p : Addr) : Prop := ∀ i fp, TrAt K H e σ i fp → p ∉ fp
abbrev Apar (K : PySem.W.Frag) (H : Hp) (e : Env) (σ : L2.St) (p : Addr) : Prop := Apart e σ (.ref p) ∧ ApT K H e σ p
/-- every tuple lies still -/
def TupIn (F H : Hp) : Prop := ∀ a xs, H a = some (.tup xs) → F a = some (.tup xs)
theorem TupIn.mut {F H : Hp} {p : Addr} {o : HO} (h : TupIn F H) (ho : ∀ xs, o ≠ .tup xs) : TupIn F (upd H p o) := fun a xs e => by
  by_cases q : a = p
  · subst q; rw [upd_same] at e; exact absurd (Option.some.inj e) (ho xs)
  · rw [upd_ne q] at e; exact h a xs e
theorem TupIn.both {F H : Hp} {p : Addr} {o : HO} (h : TupIn F H) : TupIn (upd F p o) (upd H p o) := fun a xs e => by
  by_cases q : a = p
  · subst q; rw [upd_same] at e ⊢; exact e
  · rw [upd_ne q] at e ⊢; exact h a xs e
theorem TupIn.more {F H : Hp} {p : Addr} {o : HO} (h : TupIn F H) (hp : H p = some o) : TupIn (upd F p o) H := fun a xs e => by
  by_cases q : a = p
  · subst q; rw [upd_same, ← hp]; exact e
  · rw [upd_ne q]; exact h a xs e
structure Rp (K : PySem.W.Frag) (C : Cf) (F H : Hp) (e : Env) (σ : L2.St) : Prop where
  len : e.length = σ.length
  ext : Ext F H
  off : ∀ a, C.M a → F a = none
  frm : ∀ a, C.M a → H a = C.G a ∧ C.G a ≠ none
  sl : ∀ (i : Nat) (x : Sv), e[i]? = some (some x) → ∃ v, σ[i]? = some (some v) ∧ SvR K C F H i x v
  ml : ∀ i, C.Ml i → C.M (C.lam i)
  ne : ∀ (i j : Nat) (x y : Sv), i ≠ j → e[i]? = some (some x) → e[j]? = some (some y) → x.mu = true → y.mu = true → σ[i]? ≠ σ[j]?
  tn : ∀ (i : Nat) (fp : List Addr), TrAt K H e σ i fp → (∀ a ∈ fp, Apart e σ (.ref a)) ∧ ∀ (j : Nat) (fp' : List Addr), i ≠ j → TrAt K H e σ j fp' → ∀ a ∈ fp, a ∉ fp'
  tup : TupIn F H
/-- an expression's worth: data that lies still; a new list; a name whose list is read -/
inductive Rv where
  | fz (d : D)
  | fresh (ds : List D)
  | bor (i : Nat)
def RvR (K : PySem.W.Frag) (C : Cf) (F H : Hp) (e : Env) (σ : L2.St) : Rv → V → Prop
  | .fz d, v => Dp K F v d
  | .fresh ds, v => ∃ p vs, v = .ref p ∧ H p = some (.lst vs) ∧ DpAll K F vs ds ∧ F p = none ∧ ¬ C.M p ∧ Apar K H e σ p
  | .bor i, v => σ[i]? = some (some v)
variable {C : Cf} {F H : Hp} {e : Env} {σ : L2.St}
theorem Rp.trFp (R : Rp K C F H e σ) {i : Nat} {fp : List Addr} (h : TrAt K H e σ i fp) : (∀ a ∈ fp, F a = none ∧ ¬ C.M a ∧ H a ≠ none) ∧ fp.Nodup := by
  obtain ⟨b, t, v, F', he, hv, o⟩ := h
  obtain ⟨u, hu, fp', o', nd, hF, _⟩ := R.sl _ _ he
  rw [hv] at hu; cases hu
  cases o.uniq o'
  exact ⟨fun a ha => ⟨(hF a ha).1, (hF a ha).2, o'.some a ha⟩, nd⟩
/-- where the things stand is told alike in a later heap that keeps their objects -/
theorem Rp.trBack (R : Rp K C F H e σ) {H' : Hp} (k : ∀ a, H a ≠ none → F a = none → ¬ C.M a → (∃ i fp, TrAt K H e σ i fp ∧ a ∈ fp) → H' a = H a) {i : Nat} {fp : List Addr} (h : TrAt K H' e σ i fp) : TrAt K H e σ i fp := by
  obtain ⟨b, t, v, F', he, hv, o⟩ := h
  obtain ⟨u, hu, fp', o', nd, hF, _⟩ := R.sl _ _ he
  rw [hv] at hu; cases hu
  have T : TrAt K H e σ i fp' := ⟨b, t, v, F, he, hv, o'⟩
  have o2 : Ow K F H' t v fp' := o'.ext (.refl F) fun a ha => k a (o'.some a ha) (hF a ha).1 (hF a ha).2 ⟨i, fp', T, ha⟩
  cases o.uniq o2
  exact T
end VI
set_option Elab.async false
set_option linter.all false
set_option maxRecDepth 100000
set_option maxHeartbeats 4000000
namespace VI
open PySem PySem.Spec PyProof.Rows L2
variable {K : PySem.W.Frag} {C : Cf} {F H : Hp} {e e' : Env} {σ : L2.St}
/-- an error: its class by name, its fields -/
structure Xc where
  cls : Str
  fs : List (Str × D)
/-- what a step comes to -/
inductive Rs (α : Type) where
  | no
  | ok (a : α) (e : Env)
  | ex (x : Xc) (e : Env)
def Rs.bind {α β : Type} (r : Rs α) (f : α → Env → Rs β) : Rs β := match r with
  | .no => .no
  | .ok a e => f a e
  | .ex x e => .ex x e
def ofO {α : Type} (o : Option α) (e : Env) : Rs α := match o with
  | none => .no
  | some a => .ok a e
abbrev Sem1 (α : Type) := Env → Rs α
abbrev Ev := Sem1 Rv
theorem getset {α : Type} {l : List α} {i j : Nat} {x y : α} (h : (l.set i x)[j]? = some y) : (i = j ∧ x = y) ∨ (i ≠ j ∧ l[j]? = some y) := by
  by_cases q : i = j
  · subst q
    refine .inl ⟨rfl, ?_⟩
    rw [List.getElem?_set] at h
    simp only [if_true] at h
    split at h
    · exact Option.some.inj h
    · cases h
  · exact .inr ⟨q, by rw [List.getElem?_set_ne q] at h; exact h⟩
theorem SvR.ext {F' : Hp} (E : Ext F F') (hf : ∀ a, F a = none → ((C.M a ∨ ∃ (j : Nat) (y : Sv), e[j]? = some (some y) ∧ y.mu = true ∧ σ[j]? = some (some (V.ref a))) ∨ ∃ j fp, TrAt K H e σ j fp ∧ a ∈ fp) → F' a = none) {i : Nat} {x : Sv} {v : V} (he : e[i]? = some (some x)) (hv : σ[i]? = some (some v))
    (q : SvR K C F H i x v) : SvR K C F' H i x v := by
  cases x with
  | fz d => exact Dp.ext E q
  | own ds => obtain ⟨p, vs, rfl, h1, h2, h3, h4⟩ := q; exact ⟨p, vs, rfl, h1, h2.ext E, hf p h3 (.inl (.inr ⟨i, _, he, rfl, hv⟩)), h4⟩
  | lent ds => obtain ⟨vs, rfl, h1, h2, h3⟩ := q; exact ⟨vs, rfl, h1, h2.ext E, h3⟩
  | io ds => obtain ⟨vs, rfl, h1, h2, h3, h4⟩ := q; exact ⟨vs, rfl, h1, h2.ext E, hf _ h3 (.inl (.inr ⟨i, _, he, rfl, hv⟩)), h4⟩
  | tr b t => obtain ⟨fp, o, nd, h, hb⟩ := q; exact ⟨fp, o.ext E fun _ _ => rfl, nd, fun a ha => ⟨hf a (h a ha).1 (.inr ⟨i, fp, ⟨b, t, v, F, he, hv, o⟩, ha⟩), (h a ha).2⟩, hb⟩
/-- fewer things, no other -/
theorem tn_sub {e2 : Env} {σ2 : L2.St} (tn : ∀ (i : Nat) (fp : List Addr), TrAt K H e σ i fp → (∀ a ∈ fp, Apart e σ (.ref a)) ∧ ∀ (j : Nat) (fp' : List Addr), i ≠ j → TrAt K H e σ j fp' → ∀ a ∈ fp, a ∉ fp')
    (ht : ∀ (j : Nat) (y : Bool × OT), e2[j]? = some (some (Sv.tr y.1 y.2)) → e[j]? = some (some (Sv.tr y.1 y.2))) (hm : ∀ (j : Nat) (y : Sv), e2[j]? = some (some y) → y.mu = true → ∃ y' : Sv, e[j]? = some (some y') ∧ y'.mu = true ∧ σ2[j]? = σ[j]?)
    (hv : ∀ (j : Nat) (y : Bool × OT), e2[j]? = some (some (Sv.tr y.1 y.2)) → σ2[j]? = σ[j]? := by intros; rfl) :
    ∀ (i : Nat) (fp : List Addr), TrAt K H e2 σ2 i fp → (∀ a ∈ fp, Apart e2 σ2 (.ref a)) ∧ ∀ (j : Nat) (fp' : List Addr), i ≠ j → TrAt K H e2 σ2 j fp' → ∀ a ∈ fp, a ∉ fp' := fun i fp h => by
  have up : ∀ {i fp}, TrAt K H e2 σ2 i fp → TrAt K H e σ i fp := fun {i fp} h => by
    obtain ⟨b, t, v, F', he, hv', o⟩ := h
    exact ⟨b, t, v, F', ht i (b, t) he, by rw [← hv i (b, t) he]; exact hv', o⟩
  obtain ⟨h1, h2⟩ := tn i fp (up h)
  refine ⟨fun a ha j y hy my hs => ?_, fun j fp' hj h' => h2 j fp' hj (up h')⟩
  obtain ⟨y', k1, k2, k3⟩ := hm j y hy my
  exact h1 a ha j y' k1 k2 (by rw [← k3]; exact hs)
/-- what lies still grows by the object at p -/
theorem Rp.more (R : Rp K C F H e σ) {p : Addr} {o : HO} (hp : H p = some o) (hF : F p = none) (hM : ¬ C.M p) (ap : Apar K H e σ p) : Rp K C (upd F p o) H e σ := by
  refine ⟨R.len, fun a u h => ?_, fun a ha => ?_, R.frm, fun i x hx => ?_, R.ml, R.ne, R.tn, R.tup.more hp⟩
  · by_cases q : a = p
    · subst q; rw [upd_same] at h; rw [hp]; exact h
    · rw [upd_ne q] at h; exact R.ext a u h
  · rw [upd_ne (show a ≠ p from fun z => hM (z ▸ ha))]; exact R.off a ha
  · obtain ⟨v, hv, q⟩ := R.sl i x hx
    refine ⟨v, hv, SvR.ext (e := e) (σ := σ) (Ext.new hF) (fun a h0 h1 => ?_) hx hv q⟩
    rcases h1 with (h1 | ⟨j, y, h2, h3, h4⟩) | ⟨j, fp, h2, h3⟩
    · rw [upd_ne (show a ≠ p from fun z => hM (z ▸ h1))]; exact h0
    · rw [upd_ne (show a ≠ p from fun z => ap.1 j y h2 h3 (z ▸ h4))]; exact h0
    · rw [upd_ne (show a ≠ p from fun z => ap.2 j fp h2 (z ▸ h3))]; exact h0
/-- a name's own list comes to rest -/
theorem Rp.rest (R : Rp K C F H e σ) {i : Nat} {ds : List D} (h : e[i]? = some (some (.own ds))) : ∃ F' v, Rp K C F' H (e.set i (some (.fz (.list ds)))) σ ∧ Ext F F' ∧ σ[i]? = some (some v) ∧ Dp K F' v (.list ds) := by
  obtain ⟨v, hv, p, vs, rfl, hp, hd, hF, hM⟩ := R.sl _ _ h
  have E : Ext F (upd F p (.lst vs)) := Ext.new hF
  have dp : Dp K (upd F p (.lst vs)) (.ref p) (.list ds) := .lst (.of upd_same) (hd.ext E)
  refine ⟨upd F p (.lst vs), .ref p, ⟨by rw [List.length_set]; exact R.len, fun a u ha => ?_, fun a ha => ?_, R.frm, fun j x hx => ?_, R.ml, fun j k x y hjk hx hy mx my => ?_, tn_sub R.tn (fun j y hy => ?_) (fun j y hy my => ?_), R.tup.more hp⟩, E, hv, dp⟩
  · by_cases q : a = p
    · subst q; rw [upd_same] at ha; rw [hp]; exact ha
    · rw [upd_ne q] at ha; exact R.ext a u ha
  · rw [upd_ne (show a ≠ p from fun z => hM (z ▸ ha))]; exact R.off a ha
  · rcases getset hx with ⟨rfl, hx'⟩ | ⟨hj, hx⟩
    · cases hx'; exact ⟨_, hv, dp⟩
    · obtain ⟨w, hw, q⟩ := R.sl j x hx
      refine ⟨w, hw, ?_⟩
      cases x with
      | fz d => exact Dp.ext E q
      | own ds' =>
        obtain ⟨p', vs', rfl, h1, h2, h3, h4⟩ := q
        have : p' ≠ p := fun z => R.ne i j _ _ hj h hx rfl rfl (by rw [hv, hw, z])
        exact ⟨p', vs', rfl, h1, h2.ext E, by rw [upd_ne this]; exact h3, h4⟩
      | lent ds' => obtain ⟨vs', rfl, h1, h2, h3⟩ := q; exact ⟨vs', rfl, h1, h2.ext E, h3⟩
      | io ds' =>
        obtain ⟨vs', rfl, h1, h2, h3, h4⟩ := q
        have : C.lam j ≠ p := fun z => R.ne i j _ _ hj h hx rfl rfl (by rw [hv, hw, z])
        exact ⟨vs', rfl, h1, h2.ext E, by rw [upd_ne this]; exact h3, h4⟩
      | tr b t =>
        obtain ⟨fp, o, nd, h, hb⟩ := q
        refine ⟨fp, o.ext E fun _ _ => rfl, nd, fun a ha => ⟨?_, (h a ha).2⟩, hb⟩
        have : a ≠ p := fun z => (R.tn j fp ⟨b, t, w, F, hx, hw, o⟩).1 a ha i _ ‹_› rfl (by rw [hv, z])
        rw [upd_ne this]; exact (h a ha).1
  · rcases getset hx with ⟨rfl, hx'⟩ | ⟨hj, hx⟩
    · cases hx'; cases mx
    · rcases getset hy with ⟨rfl, hy'⟩ | ⟨hk, hy⟩
      · cases hy'; cases my
      · exact R.ne j k x y hjk hx hy mx my
  · rcases getset hy with ⟨rfl, hy'⟩ | ⟨hj, hy⟩
    · cases hy'
    · exact hy
  · rcases getset hy with ⟨rfl, hy'⟩ | ⟨hj, hy⟩
    · cases hy'; cases my
    · exact ⟨_, hy, my, rfl⟩
def look (e : Env) (i : Nat) : Option D := match e[i]? with
  | some (some (.fz d)) => some d
  | some (some (.own ds)) => some (.list ds)
  | some (some (.lent ds)) => some (.list ds)
  | some (some (.io ds)) => some (.list ds)
  | _ => none
def peek : Rv → Env → Option D
  | .fz d, _ => some d
  | .fresh ds, _ => some (.list ds)
  | .bor i, e => look e i
def frz : Rv → Env → Rs D
  | .fz d, e => .ok d e
  | .fresh ds, e => .ok (.list ds) e
  | .bor i, e => match e[i]? with
    | some (some (.fz d)) => .ok d e
    | some (some (.own ds)) => .ok (.list ds) (e.set i (some (.fz (.list ds))))
    | _ => .no
def toD (a : Ev) : Sem1 D := fun e => (a e).bind frz
/-- as an operand: a new list has come to rest -/
def calmR : Rv → Rv
  | .fresh ds => .fz (.list ds)
  | r => r
def opd (a : Ev) : Ev := fun e => (a e).bind fun x e1 => .ok (calmR x) e1
/-- no new list -/
def Rv.still : Rv → Bool
  | .fresh _ => false
  | _ => true
theorem calm_still (r : Rv) : (calmR r).still = true := by cases r <;> rfl
/-- the written part, what is wanted of an error at given slots, how an error lies -/
structure Wd where
  K : PySem.W.Frag
  W : WX
  XR : Hp → Hp → Xc → Value → Option Addr → Prop
def Post {α β : Type} (w : Wd) (RA : Cf → Hp → Hp → Env → L2.St → α → β → Prop) (C : Cf) (F : Hp) (σ : L2.St) (Q : β → Hp → Prop) : Rs α → Prop
  | .no => False
  | .ok a e' => ∀ v F' H', Rp w.K C F' H' e' σ → Ext F F' → RA C F' H' e' σ a v → Q v H'
  | .ex x e' => ∀ F' H' cv od, Rp w.K C F' H' e' σ → Ext F F' → w.XR F' H' x cv od → w.W cv od σ H'
def Rd {α β : Type} (w : Wd) (RA : Cf → Hp → Hp → Env → L2.St → α → β → Prop) (a : Sem1 α) : L2.St → Hp → (β → Hp → Prop) → Prop := fun σ H Q =>
  ∃ C F e, Rp w.K C F H e σ ∧ Post w RA C F σ Q (a e)
section
variable {w : Wd} {α β γ δ : Type} {RA : Cf → Hp → Hp → Env → L2.St → α → β → Prop} {RB : Cf → Hp → Hp → Env → L2.St → γ → δ → Prop}
theorem Post.mono {F1 : Hp} (E : Ext F F1) {Q : β → Hp → Prop} {r : Rs α} (h : Post w RA C F σ Q r) : Post w RA C F1 σ Q r := by
  cases r with
  | no => exact h
  | ok a e' => exact fun v F' H' R E' q => h v F' H' R (E.trans E') q
  | ex x e' => exact fun F' H' cv od R E' q => h F' H' cv od R (E.trans E') q
theorem bindP {Q : δ → Hp → Prop} {Q1 : β → Hp → Prop} {a : Sem1 α} {f : α → Env → Rs γ} (R : Rp w.K C F H e σ) (P : Post w RB C F σ Q ((a e).bind f))
    (k : ∀ F1 H1 e1 x v, a e = .ok x e1 → Rp w.K C F1 H1 e1 σ → Ext F F1 → RA C F1 H1 e1 σ x v → Post w RB C F1 σ Q (f x e1) → Q1 v H1) : Rd w RA a σ H Q1 := by
  refine ⟨C, F, e, R, ?_⟩
  cases h1 : a e with
  | no => rw [h1] at P; exact False.elim P
  | ok x e1 =>
    rw [h1] at P
    exact fun v F' H' R' E q => k F' H' e1 x v h1 R' E q (Post.mono E P)
  | ex x e1 => rw [h1] at P; exact fun F' H' cv od R E q => P F' H' cv od R E q
end
abbrev RD (K : PySem.W.Frag) : Cf → Hp → Hp → Env → L2.St → D → V → Prop := fun _ F _ _ _ d v => Dp K F v d
abbrev RB : Cf → Hp → Hp → Env → L2.St → Bool → Bool → Prop := fun _ _ _ _ _ a b => a = b
abbrev RR (K : PySem.W.Frag) : Cf → Hp → Hp → Env → L2.St → Rv → V → Prop := fun C F H e σ r v => RvR K C F H e σ r v
abbrev rdR (w : Wd) (a : Ev) : TE := Rd w (RR w.K) a
abbrev rdD (w : Wd) (a : Sem1 D) : TE := Rd w (RD w.K) a
abbrev rdT (w : Wd) (a : Sem1 Bool) : TT := Rd w RB a
theorem pe_mono {X : Cx} {ex : Expr} {t t' : TE} (h : PE X ex t) (w : ∀ σ H Q, t' σ H Q → t σ H Q) : PE X ex t' := ⟨fun pins s σ H Q I q => h.run pins s σ H Q I (w σ H Q q)⟩
theorem pt_mono {X : Cx} {ex : Expr} {t t' : TT} (h : PT X ex t) (w : ∀ σ H Q, t' σ H Q → t σ H Q) : PT X ex t' := ⟨fun pins s σ H Q I q => h.run pins s σ H Q I (w σ H Q q)⟩
theorem pa_mono {X : Cx} {ex : List Expr} {t t' : TA} (h : PA X ex t) (w : ∀ σ H Q, t' σ H Q → t σ H Q) : PA X ex t' := ⟨fun pos pins s σ H Q I q => h.run pos pins s σ H Q I (w σ H Q q)⟩
theorem ps_mono {X : Cx} {st : Stmt} {t t' : TS} (h : PS X st t) (w : ∀ D σ H, t' D σ H → t D σ H) : PS X st t' := ⟨fun pins s σ H Q I q => h.run pins s σ H Q I (w Q σ H q)⟩
theorem pss_mono {X : Cx} {st : List Stmt} {t t' : TS} (h : PSs X st t) (w : ∀ D σ H, t' D σ H → t D σ H) : PSs X st t' := ⟨fun pins s σ H Q I q => h.run pins s σ H Q I (w Q σ H q)⟩
/-- a new list comes to rest -/
theorem RvR.rest (R : Rp K C F H e σ) {ds : List D} {v : V} (h : RvR K C F H e σ (.fresh ds) v) : ∃ F', Rp K C F' H e σ ∧ Ext F F' ∧ Dp K F' v (.list ds) := by
  obtain ⟨p, vs, rfl, hp, hd, hF, hM, ap⟩ := h
  exact ⟨upd F p (.lst vs), R.more hp hF hM ap, Ext.new hF, .lst (.of upd_same) (hd.ext (Ext.new hF))⟩
theorem RvR.calm (R : Rp K C F H e σ) {r : Rv} {v : V} (h : RvR K C F H e σ r v) : ∃ F', Rp K C F' H e σ ∧ Ext F F' ∧ RvR K C F' H e σ (calmR r) v := by
  cases r with
  | fz d' => exact ⟨F, R, .refl F, h⟩
  | fresh ds => exact h.rest R
  | bor i => exact ⟨F, R, .refl F, h⟩
section
variable {w : Wd}
theorem Post.calm {r : Rv} {v : V} (R : Rp w.K C F H e σ) (h : RvR w.K C F H e σ r v) {Q : V → Hp → Prop} (P : Post w (RR w.K) C F σ Q (.ok (calmR r) e)) : Q v H := by
  obtain ⟨F2, R2, E2, q2⟩ := h.calm R
  exact P v F2 H R2 E2 q2
theorem Post.frz {r : Rv} {v : V} (R : Rp w.K C F H e σ) (h : RvR w.K C F H e σ r v) {Q : V → Hp → Prop} (P : Post w (RD w.K) C F σ Q (frz r e)) : Q v H := by
  cases r with
  | fz d' => exact P v F H R (.refl F) h
  | fresh ds =>
    obtain ⟨F2, R2, E2, q2⟩ := h.rest R
    exact P v F2 H R2 E2 q2
  | bor i =>
    unfold VI.frz at P
    simp only at P
    have h' : σ[i]? = some (some v) := h
    split at P
    · rename_i d' hd
      obtain ⟨w, hw, z⟩ := R.sl _ _ hd
      rw [h'] at hw; cases hw
      exact P v F H R (.refl F) z
    · rename_i ds hd
      obtain ⟨F', w, R', E, hw, z⟩ := R.rest hd
      rw [h'] at hw; cases hw
      exact P v F' H R' E z
    · exact P.elim
theorem rd_toD {a : Ev} {Q : VK} (h : rdD w (toD a) σ H Q) : rdR w a σ H Q := by
  obtain ⟨C, F, e, R, P⟩ := h
  exact bindP R P fun _ _ _ _ _ _ R _ q P => P.frz R q
theorem rd_opd {a : Ev} {Q : VK} (h : rdR w (opd a) σ H Q) : rdR w a σ H Q := by
  obtain ⟨C, F, e, R, P⟩ := h
  exact bindP R P fun _ _ _ _ _ _ R _ q P => P.calm R q
theorem opd_still {a : Ev} {e e' : Env} {r : Rv} (h : opd a e = .ok r e') : r.still = true := by
  unfold opd at h
  cases h1 : a e with
  | no => rw [h1] at h; cases h
  | ok x e1 => rw [h1] at h; cases h; exact calm_still x
  | ex x e1 => rw [h1] at h; cases h
end
/-- what is no new list stays what it is -/
theorem RvR.later {e e' : Env} {F' H' : Hp} {r : Rv} {v : V} (hs : r.still = true) (E : Ext F F') (h : RvR K C F H e σ r v) : RvR K C F' H' e' σ r v := by
  cases r with
  | fz d => exact Dp.ext E h
  | fresh ds => cases hs
  | bor i => exact h
theorem RvR.peek (R : Rp K C F H e σ) {r : Rv} {v : V} {d : D} (hs : r.still = true) (h : RvR K C F H e σ r v) (q : peek r e = some d) : Dh K F H v d := by
  cases r with
  | fz d' => cases q; exact Dp.dh R.ext h
  | fresh ds => cases hs
  | bor i =>
    have h' : σ[i]? = some (some v) := h
    have q' : look e i = some d := q
    unfold look at q'
    split at q' <;> first | (cases q'; done) | skip
    all_goals
      cases q'
      rename_i hs
      obtain ⟨w, hw, q⟩ := R.sl _ _ hs
      rw [h'] at hw; cases hw
    · exact Dp.dh R.ext q
    · obtain ⟨p, vs, rfl, hp, hd, _⟩ := q; exact .lst (.of hp) hd
    · obtain ⟨vs, rfl, hp, hd, _⟩ := q; exact .lst (.of hp) hd
    · obtain ⟨vs, rfl, hp, hd, _⟩ := q; exact .lst (.of hp) hd
inductive Res (K : PySem.W.Frag) (F H : Hp) : Rv → V → Hp → Prop
  | old {v : V} {d : D} : Dp K F v d → Res K F H (.fz d) v H
  | tup {p : Addr} {zs : List V} {ds : List D} : H p = none → DpAll K F zs ds → Res K F H (.fz (.tuple ds)) (.ref p) (upd H p (.tup zs))
  | lst {p : Addr} {zs : List V} {ds : List D} : H p = none → DpAll K F zs ds → Res K F H (.fresh ds) (.ref p) (upd H p (.lst zs))
/-- a new object that lies still at once -/
theorem Rp.growT (R : Rp K C F H e σ) {p : Addr} {o : HO} (hp : H p = none) : Rp K C (upd F p o) (upd H p o) e σ := by
  have hM : ¬ C.M p := fun h => (R.frm p h).2 ((R.frm p h).1 ▸ hp)
  have hF : F p = none := R.ext.free hp
  have keep : ∀ a u, H a = some u → upd H p o a = some u := fun a u h => by rw [upd_ne (ne_of_none h hp)]; exact h
  have keepT : ∀ a, H a ≠ none → upd H p o a = H a := fun a h => upd_ne (fun z => h (z ▸ hp))
  have nF : ∀ a, H a ≠ none → F a = none → upd F p o a = none := fun a h h' => by rw [upd_ne (show a ≠ p from fun z => h (z ▸ hp))]; exact h'
  refine ⟨R.len, R.ext.both, fun a ha => ?_, fun a ha => ?_, fun i x hx => ?_, R.ml, R.ne, fun i fp h => ?_, R.tup.both⟩
  · rw [upd_ne (show a ≠ p from fun z => hM (z ▸ ha))]; exact R.off a ha
  · rw [upd_ne (show a ≠ p from fun z => hM (z ▸ ha))]; exact R.frm a ha
  · obtain ⟨v, hv, q⟩ := R.sl i x hx
    refine ⟨v, hv, ?_⟩
    have E : Ext F (upd F p o) := Ext.new hF
    cases x with
    | fz d => exact Dp.ext E q
    | own ds => obtain ⟨p', vs, rfl, h1, h2, h3, h4⟩ := q; exact ⟨p', vs, rfl, keep _ _ h1, h2.ext E, nF _ (by rw [h1]; exact fun z => by cases z) h3, h4⟩
    | lent ds => obtain ⟨vs, rfl, h1, h2, h3⟩ := q; exact ⟨vs, rfl, keep _ _ h1, h2.ext E, h3⟩
    | io ds => obtain ⟨vs, rfl, h1, h2, h3, h4⟩ := q; exact ⟨vs, rfl, keep _ _ h1, h2.ext E, nF _ (by rw [h1]; exact fun z => by cases z) h3, h4⟩
    | tr b t => obtain ⟨fp, o', nd, h, hb⟩ := q; exact ⟨fp, o'.ext E fun a ha => keepT a (o'.some a ha), nd, fun a ha => ⟨nF a (o'.some a ha) (h a ha).1, (h a ha).2⟩, hb⟩
  · obtain ⟨h1, h2⟩ := R.tn i fp (R.trBack (fun a h _ _ _ => keepT a h) h)
    exact ⟨h1, fun j fp' hj h' => h2 j fp' hj (R.trBack (fun a h _ _ _ => keepT a h) h')⟩
theorem Rp.grow (R : Rp K C F H e σ) {p : Addr} {o : HO} (hp : H p = none) (ho : ∀ xs, o ≠ .tup xs := by intro xs z; cases z) : Rp K C F (upd H p o) e σ ∧ ¬ C.M p ∧ F p = none ∧ Apar K (upd H p o) e σ p := by
  have hM : ¬ C.M p := fun h => (R.frm p h).2 ((R.frm p h).1 ▸ hp)
  have keep : ∀ a u, H a = some u → upd H p o a = some u := fun a u h => by rw [upd_ne (ne_of_none h hp)]; exact h
  have keepT : ∀ a, H a ≠ none → upd H p o a = H a := fun a h => upd_ne (fun z => h (z ▸ hp))
  refine ⟨⟨R.len, fun a u h => keep a u (R.ext a u h), R.off, fun a ha => ?_, fun i x hx => ?_, R.ml, R.ne, fun i fp h => ?_, R.tup.mut ho⟩, hM, R.ext.free hp, fun i x hx mx hv => ?_, fun i fp h hp' => ?_⟩
  · rw [upd_ne (show a ≠ p from fun z => hM (z ▸ ha))]; exact R.frm a ha
  · obtain ⟨v, hv, q⟩ := R.sl i x hx
    refine ⟨v, hv, ?_⟩
    cases x with
    | fz d => exact q
    | own ds => obtain ⟨p', vs, rfl, h1, h2⟩ := q; exact ⟨p', vs, rfl, keep _ _ h1, h2⟩
    | lent ds => obtain ⟨vs, rfl, h1, h2⟩ := q; exact ⟨vs, rfl, keep _ _ h1, h2⟩
    | io ds => obtain ⟨vs, rfl, h1, h2⟩ := q; exact ⟨vs, rfl, keep _ _ h1, h2⟩
    | tr b t => obtain ⟨fp, o, q⟩ := q; exact ⟨fp, o.ext (.refl F) fun a ha => keepT a (o.some a ha), q⟩
  · obtain ⟨h1, h2⟩ := R.tn i fp (R.trBack (fun a h _ _ _ => keepT a h) h)
    exact ⟨h1, fun j fp' hj h' => h2 j fp' hj (R.trBack (fun a h _ _ _ => keepT a h) h')⟩
  · obtain ⟨v, hv', q⟩ := R.sl i x hx
    rw [hv] at hv'; cases hv'
    cases x with
    | fz d => cases mx
    | own ds => obtain ⟨p', vs, h0, h1, h2⟩ := q; cases h0; rw [hp] at h1; cases h1
    | lent ds => cases mx
    | io ds => obtain ⟨vs, h0, h1, h2⟩ := q; cases h0; rw [hp] at h1; cases h1
    | tr b t => cases mx
  · exact ((R.trFp (R.trBack (fun a h _ _ _ => keepT a h) h)).1 p hp').2.2 hp
theorem Res.rp (R : Rp K C F H e σ) {r : Rv} {v : V} {H' : Hp} (h : Res K F H r v H') : ∃ F', Rp K C F' H' e σ ∧ Ext F F' ∧ RvR K C F' H' e σ r v := by
  cases h with
  | old h => exact ⟨F, R, .refl F, h⟩
  | tup hp hd =>
    have hF := R.ext.free hp
    exact ⟨_, R.growT hp, Ext.new hF, .tup upd_same (hd.ext (Ext.new hF))⟩
  | lst hp hd =>
    obtain ⟨R', hM, hF, ap⟩ := R.grow (o := .lst _) hp
    exact ⟨F, R', .refl F, _, _, rfl, upd_same, hd, hF, hM, ap⟩
theorem Post.res {w : Wd} (R : Rp w.K C F H e σ) {r : Rv} {v : V} {H' : Hp} (h : Res w.K F H r v H') {Q : V → Hp → Prop} (P : Post w (RR w.K) C F σ Q (.ok r e)) : Q v H' := by
  obtain ⟨F', R', E, q⟩ := h.rp R
  exact P v F' H' R' E q
theorem post_ofO {α β : Type} {w : Wd} {RA : Cf → Hp → Hp → Env → L2.St → α → β → Prop} {Q : β → Hp → Prop} {o : Option α} (P : Post w RA C F σ Q (ofO o e)) : ∃ a, o = some a ∧ Post w RA C F σ Q (.ok a e) := by
  cases o with
  | none => exact False.elim P
  | some a => exact ⟨a, rfl, P⟩
abbrev F2 := D → D → Option Rv
abbrev F1 := D → Option Rv
def ap2 (f : F2) (x y : Rv) (e : Env) : Option Rv := (peek x e).bind fun dx => (peek y e).bind fun dy => f dx dy
def ap1 (f : F1) (x : Rv) (e : Env) : Option Rv := (peek x e).bind fun dx => f dx
def bin2 (f : F2) (a b : Ev) : Ev := fun e => (opd a e).bind fun x e1 => (opd b e1).bind fun y e2 => ofO (ap2 f x y e2) e2
def un1 (f : F1) (a : Ev) : Ev := fun e => (opd a e).bind fun x e1 => ofO (ap1 f x e1) e1
def OpS (K : PySem.W.Frag) (f : F2) (r : R2) : Prop := ∀ F H x y dx dy z, Ext F H → Dh K F H x dx → Dh K F H y dy → f dx dy = some z → ∀ Q : VK, (∀ v H', Res K F H z v H' → Q v H') → r x y H Q
theorem ap2_some {f : F2} {x y z : Rv} (h : ap2 f x y e = some z) : ∃ dx dy, peek x e = some dx ∧ peek y e = some dy ∧ f dx dy = some z := by
  obtain ⟨dx, h1, h⟩ := Option.bind_eq_some_iff.mp h
  obtain ⟨dy, h2, h⟩ := Option.bind_eq_some_iff.mp h
  exact ⟨dx, dy, h1, h2, h⟩
theorem rd_bin2 {w : Wd} {f : F2} {r : R2} {a b : Ev} (hs : OpS w.K f r) {Q : VK} (h : rdR w (bin2 f a b) σ H Q) : tOp r (rdR w a) (rdR w b) σ H Q := by
  obtain ⟨C, F, e, R, P⟩ := h
  refine rd_opd (bindP R P fun F1 H1 e1 x v1 h1 R1 E1 q1 P1 => ?_)
  refine rd_opd (bindP R1 P1 fun F2 H2 e2 y v2 h2 R2 E2 q2 P2 => ?_)
  obtain ⟨z, hz, P3⟩ := post_ofO P2
  obtain ⟨dx, dy, hx, hy, hf⟩ := ap2_some hz
  exact hs F2 H2 v1 v2 dx dy z R2.ext (RvR.peek R2 (opd_still h1) (RvR.later (opd_still h1) E2 q1) hx) (RvR.peek R2 (opd_still h2) q2 hy) hf Q fun v H' q => P3.res R2 q
section
variable {w : Wd} {X : Cx} {a b : Expr} {ea eb : Ev} {pos : Pos}
theorem ve_bin {op : Operator} {f : F2} {r : R2} (ho : OpR X (binaryOp op) r) (hs : OpS w.K f r) (ha : PE X a (rdR w ea)) (hb : PE X b (rdR w eb)) : PE X (.BinOp a op b pos) (rdR w (bin2 f ea eb)) :=
  pe_mono (pe_op ho ha hb) fun _ _ _ h => rd_bin2 hs h
theorem ve_cmp {op : CmpOp} {f : F2} {r : R2} (ho : OpR X (compareOp op) r) (hs : OpS w.K f r) (ha : PE X a (rdR w ea)) (hb : PE X b (rdR w eb)) (hm : behindInMarks op b = false) : PE X (.Compare a [op] [b] pos) (rdR w (bin2 f ea eb)) :=
  pe_mono (pe_cmpR ho ha hb hm) fun _ _ _ h => rd_bin2 hs h
theorem ve_ix {f : F2} {r : R2} (hr : IxR X r) (hs : OpS w.K f r) (ha : PE X a (rdR w ea)) (hb : PE X b (rdR w eb)) (hx : PlainIx b) : PE X (.Subscript a b pos) (rdR w (bin2 f ea eb)) :=
  pe_mono (pe_ix hr ha hb hx) fun _ _ _ h => rd_bin2 hs h
end
end VI
set_option Elab.async false
set_option linter.all false
set_option maxRecDepth 100000
set_option maxHeartbeats 4000000
namespace VI
open PySem PySem.Spec PyProof.Rows L2
variable {K : PySem.W.Frag} {C : Cf} {F H : Hp} {e e' : Env} {σ : L2.St}
/-- a one-step reading with what is known -/
theorem Post.ok' {α β : Type} {w : Wd} {RA : Cf → Hp → Hp → Env → L2.St → α → β → Prop} {Q : β → Hp → Prop} {a : α} (P : Post w RA C F σ Q (.ok a e)) (R : Rp w.K C F H e σ) {v : β} (q : RA C F H e σ a v) : Q v H := P v F H R (.refl F) q
def eV (i : Nat) : Ev := fun e => match e[i]? with
  | some (some (.fz d)) => .ok (.fz d) e
  | some (some _) => .ok (.bor i) e
  | _ => .no
def eC (d : D) : Ev := fun e => .ok (.fz d) e
theorem rd_var {w : Wd} {i : Nat} {Q : VK} (h : rdR w (eV i) σ H Q) : tVar i σ H Q := by
  obtain ⟨C, F, e, R, P⟩ := h
  unfold eV at P
  split at P
  · rename_i d hd
    obtain ⟨v, hv, q⟩ := R.sl _ _ hd
    exact ⟨v, hv, P.ok' R q⟩
  · rename_i x hn hx
    obtain ⟨v, hv, q⟩ := R.sl _ _ hx
    exact ⟨v, hv, P.ok' R (show RvR _ _ _ _ _ _ (.bor i) v from hv)⟩
  · exact P.elim
theorem rd_c {w : Wd} {d : D} {v : V} (hd : ∀ F, Dp w.K F v d) {Q : VK} (h : rdR w (eC d) σ H Q) : tC v σ H Q := by
  obtain ⟨C, F, e, R, P⟩ := h
  exact P.ok' R (hd F)
def opds : List Ev → Sem1 (List Rv)
  | [] => fun e => .ok [] e
  | a :: as => fun e => (opd a e).bind fun x e1 => (opds as e1).bind fun xs e2 => .ok (x :: xs) e2
def toDs : List Ev → Sem1 (List D)
  | [] => fun e => .ok [] e
  | a :: as => fun e => (toD a e).bind fun x e1 => (toDs as e1).bind fun xs e2 => .ok (x :: xs) e2
abbrev RRs (K : PySem.W.Frag) : Cf → Hp → Hp → Env → L2.St → List Rv → List V → Prop := fun C F H e σ rs vs => Paired (fun r v => r.still = true ∧ RvR K C F H e σ r v) rs vs
abbrev RDs (K : PySem.W.Frag) : Cf → Hp → Hp → Env → L2.St → List D → List V → Prop := fun _ F _ _ _ ds vs => DpAll K F vs ds
abbrev rdRs (w : Wd) (a : Sem1 (List Rv)) : TA := Rd w (RRs w.K) a
abbrev rdDs (w : Wd) (a : Sem1 (List D)) : TA := Rd w (RDs w.K) a
theorem rd_opds_nil {w : Wd} {Q : List V → Hp → Prop} (h : rdRs w (opds []) σ H Q) : tNil σ H Q := by
  obtain ⟨C, F, e, R, P⟩ := h
  exact P.ok' R .nil
theorem rd_opds_cons {w : Wd} {a : Ev} {as : List Ev} {Q : List V → Hp → Prop} (h : rdRs w (opds (a :: as)) σ H Q) : tCons (rdR w a) (rdRs w (opds as)) σ H Q := by
  obtain ⟨C, F, e, R, P⟩ := h
  refine rd_opd (bindP R P fun F1 H1 e1 x v1 h1 R1 E1 q1 P1 => ?_)
  refine bindP R1 P1 fun F2 H2 e2 xs vs h2 R2 E2 q2 P2 => ?_
  exact P2.ok' R2 (.cons ⟨opd_still h1, RvR.later (opd_still h1) E2 q1⟩ q2)
theorem rd_toDs_nil {w : Wd} {Q : List V → Hp → Prop} (h : rdDs w (toDs []) σ H Q) : tNil σ H Q := by
  obtain ⟨C, F, e, R, P⟩ := h
  exact P.ok' R .nil
theorem rd_toDs_cons {w : Wd} {a : Ev} {as : List Ev} {Q : List V → Hp → Prop} (h : rdDs w (toDs (a :: as)) σ H Q) : tCons (rdR w a) (rdDs w (toDs as)) σ H Q := by
  obtain ⟨C, F, e, R, P⟩ := h
  refine rd_toD (bindP R P fun F1 H1 e1 x v1 h1 R1 E1 q1 P1 => ?_)
  refine bindP R1 P1 fun F2 H2 e2 xs vs h2 R2 E2 q2 P2 => ?_
  exact P2.ok' R2 (.cons (Dp.ext E2 q1) q2)
section
variable {w : Wd} {X : Cx} {ex : Expr} {es : List Expr} {a : Ev} {as : List Ev} {pos : Pos}
theorem va_nil : PA X [] (rdRs w (opds [])) := pa_mono pa_nil fun _ _ _ h => rd_opds_nil h
theorem va_cons (ha : PE X ex (rdR w a)) (hr : PA X es (rdRs w (opds as))) (hs : starEach (ex :: es) X.env = (false, eval ex X.env) :: starEach es X.env := by rfl) : PA X (ex :: es) (rdRs w (opds (a :: as))) :=
  pa_mono (pa_cons ha hr hs) fun _ _ _ h => rd_opds_cons h
theorem vd_nil : PA X [] (rdDs w (toDs [])) := pa_mono pa_nil fun _ _ _ h => rd_toDs_nil h
theorem vd_cons (ha : PE X ex (rdR w a)) (hr : PA X es (rdDs w (toDs as))) (hs : starEach (ex :: es) X.env = (false, eval ex X.env) :: starEach es X.env := by rfl) : PA X (ex :: es) (rdDs w (toDs (a :: as))) :=
  pa_mono (pa_cons ha hr hs) fun _ _ _ h => rd_toDs_cons h
end
def eTup (as : Sem1 (List D)) : Ev := fun e => (as e).bind fun ds e1 => if ds.length ≤ sizeLine then .ok (.fz (.tuple ds)) e1 else .no
def eLst (as : Sem1 (List D)) : Ev := fun e => (as e).bind fun ds e1 => if ds.length ≤ sizeLine then .ok (.fresh ds) e1 else .no
theorem rd_tup {w : Wd} {as : Sem1 (List D)} {Q : VK} (h : rdR w (eTup as) σ H Q) : tTup (rdDs w as) σ H Q := by
  obtain ⟨C, F, e, R, P⟩ := h
  refine bindP R P fun F1 H1 e1 ds vs h1 R1 E1 q1 P1 => ?_
  split at P1
  · rename_i hl
    exact ⟨by rw [q1.length]; exact hl, fun p hp => P1.res R1 (.tup hp q1)⟩
  · exact P1.elim
theorem rd_lst {w : Wd} {as : Sem1 (List D)} {Q : VK} (h : rdR w (eLst as) σ H Q) : tLst (rdDs w as) σ H Q := by
  obtain ⟨C, F, e, R, P⟩ := h
  refine bindP R P fun F1 H1 e1 ds vs h1 R1 E1 q1 P1 => ?_
  split at P1
  · rename_i hl
    exact ⟨by rw [q1.length]; exact hl, fun p hp => P1.res R1 (.lst hp q1)⟩
  · exact P1.elim
def peeks : List Rv → Env → Option (List D)
  | [], _ => some []
  | r :: rs, e => (peek r e).bind fun d => (peeks rs e).bind fun ds => some (d :: ds)
inductive DhAll (K : PySem.W.Frag) (F H : Hp) : List V → List D → Prop
  | nil : DhAll K F H [] []
  | cons {v : V} {vs : List V} {d : D} {ds : List D} : Dh K F H v d → DhAll K F H vs ds → DhAll K F H (v :: vs) (d :: ds)
theorem peeks_dh (R : Rp K C F H e σ) : ∀ {rs : List Rv} {vs : List V} {ds : List D}, Paired (fun r v => r.still = true ∧ RvR K C F H e σ r v) rs vs → peeks rs e = some ds → DhAll K F H vs ds
  | _, _, _, .nil, h => by cases h; exact .nil
  | _, _, _, .cons a r, h => by
    obtain ⟨d, h1, h⟩ := Option.bind_eq_some_iff.mp h
    obtain ⟨ds, h2, h⟩ := Option.bind_eq_some_iff.mp h
    cases h
    exact .cons (RvR.peek R a.1 a.2 h1) (peeks_dh R r h2)
def eB (f : List D → Option Rv) (as : Sem1 (List Rv)) : Ev := fun e => (as e).bind fun rs e1 => ofO ((peeks rs e1).bind f) e1
def CallS (K : PySem.W.Frag) (f : List D → Option Rv) (r : List V → Hp → VK → Prop) : Prop := ∀ F H vs ds z, Ext F H → DhAll K F H vs ds → f ds = some z → ∀ Q : VK, (∀ v H', Res K F H z v H' → Q v H') → r vs H Q
theorem rd_blt {w : Wd} {f : List D → Option Rv} {r : List V → Hp → VK → Prop} {as : Sem1 (List Rv)} (hs : CallS w.K f r) {Q : VK} (h : rdR w (eB f as) σ H Q) : tCB r (rdRs w as) σ H Q := by
  obtain ⟨C, F, e, R, P⟩ := h
  refine bindP R P fun F1 H1 e1 rs vs h1 R1 E1 q1 P1 => ?_
  obtain ⟨z, hz, P2⟩ := post_ofO P1
  obtain ⟨ds, hd, hf⟩ := Option.bind_eq_some_iff.mp hz
  exact hs F1 H1 vs ds z R1.ext (peeks_dh R1 q1 hd) hf Q fun v H' q => P2.res R1 q
inductive Ret where
  | ok (r : Rv)
  | ex (x : Xc)
/-- behind a call: what lay still lies so, what others own stands -/
structure After (F F' H H' : Hp) : Prop where
  ext : Ext F F'
  ext' : Ext F' H'
  frm : ∀ a, H a ≠ none → F a = none → H' a = H a ∧ F' a = none
  tup : TupIn F' H'
def RetR (K : PySem.W.Frag) (F' H H' : Hp) : Rv → V → Prop
  | .fz d, v => Dp K F' v d
  | .fresh ds, v => ∃ p vs, v = .ref p ∧ H' p = some (.lst vs) ∧ DpAll K F' vs ds ∧ F' p = none ∧ H p = none
  | .bor _, _ => False
/-- the promise of a def that changes nothing that stood -/
def spF (K : PySem.W.Frag) (XR : Hp → Hp → Xc → Value → Option Addr → Prop) (n : Nat) (fn : List D → Option Ret) : Sp := fun vs H Q E => vs.length = n ∧ ∃ F ds, Ext F H ∧ TupIn F H ∧ DpAll K F vs ds ∧ match fn ds with
  | none => False
  | some (.ok r) => ∀ v F' H', After F F' H H' → RetR K F' H H' r v → Q v H'
  | some (.ex x) => ∀ F' H' cv od, After F F' H H' → XR F' H' x cv od → E cv od H'
theorem Rp.after (R : Rp K C F H e σ) {F' H' : Hp} (A : After F F' H H') : Rp K C F' H' e σ := by
  have keep : ∀ a, H a ≠ none → F a = none → H' a = H a ∧ F' a = none := A.frm
  have back : ∀ {i fp}, TrAt K H' e σ i fp → TrAt K H e σ i fp := fun h => R.trBack (fun a h0 h1 _ _ => (keep a h0 h1).1) h
  refine ⟨R.len, A.ext', fun a ha => ?_, fun a ha => ?_, fun i x hx => ?_, R.ml, R.ne, fun i fp h => ⟨(R.tn i fp (back h)).1, fun j fp' hj h' => (R.tn i fp (back h)).2 j fp' hj (back h')⟩, A.tup⟩
  · have h := R.frm a ha
    exact (keep a (by rw [h.1]; exact h.2) (R.off a ha)).2
  · have h := R.frm a ha
    rw [(keep a (by rw [h.1]; exact h.2) (R.off a ha)).1]; exact h
  · obtain ⟨v, hv, q⟩ := R.sl i x hx
    refine ⟨v, hv, ?_⟩
    cases x with
    | fz d => exact Dp.ext A.ext q
    | own ds =>
      obtain ⟨p, vs, rfl, h1, h2, h3, h4⟩ := q
      have k := keep p (by rw [h1]; exact fun z => by cases z) h3
      exact ⟨p, vs, rfl, k.1.trans h1, h2.ext A.ext, k.2, h4⟩
    | lent ds =>
      obtain ⟨vs, rfl, h1, h2, h3⟩ := q
      have k := keep (C.lam i) (by rw [h1]; exact fun z => by cases z) (R.off _ (R.ml _ h3))
      exact ⟨vs, rfl, k.1.trans h1, h2.ext A.ext, h3⟩
    | io ds =>
      obtain ⟨vs, rfl, h1, h2, h3, h4⟩ := q
      have k := keep (C.lam i) (by rw [h1]; exact fun z => by cases z) h3
      exact ⟨vs, rfl, k.1.trans h1, h2.ext A.ext, k.2, h4⟩
    | tr b t =>
      obtain ⟨fp, o, nd, h, hb⟩ := q
      have k := fun a ha => keep a (o.some a ha) (h a ha).1
      exact ⟨fp, o.ext A.ext fun a ha => (k a ha).1, nd, fun a ha => ⟨(k a ha).2, (h a ha).2⟩, hb⟩
theorem Rp.apart (R : Rp K C F H e σ) {p : Addr} (hp : H p = none) : Apart e σ (.ref p) := (R.grow (o := .lst []) hp).2.2.2.1
/-- a new object is none of ours, in a later heap too -/
theorem Rp.apT (R : Rp K C F H e σ) {p : Addr} (hp : H p = none) {H' : Hp} (k : ∀ a, H a ≠ none → F a = none → ¬ C.M a → (∃ i fp, TrAt K H e σ i fp ∧ a ∈ fp) → H' a = H a) : ApT K H' e σ p := fun i fp h hq => ((R.trFp (R.trBack k h)).1 p hq).2.2 hp
theorem Rp.notM (R : Rp K C F H e σ) {p : Addr} (hp : H p = none) : ¬ C.M p := (R.grow (o := .lst []) hp).2.1
theorem RetR.rv (R : Rp K C F H e σ) {F' H' : Hp} {r : Rv} {v : V} (h : RetR K F' H H' r v) (A : After F F' H H') : RvR K C F' H' e σ r v := by
  cases r with
  | fz d => exact h
  | fresh ds =>
    obtain ⟨p, vs, rfl, h1, h2, h3, h4⟩ := h
    exact ⟨p, vs, rfl, h1, h2, h3, R.notM h4, R.apart h4, R.apT h4 fun a h0 h1 _ _ => (A.frm a h0 h1).1⟩
  | bor i => exact h.elim
def eF (fn : List D → Option Ret) (as : Sem1 (List D)) : Ev := fun e => (as e).bind fun ds e1 => match fn ds with
  | none => .no
  | some (.ok r) => .ok r e1
  | some (.ex x) => .ex x e1
theorem rd_call {w : Wd} {n : Nat} {fn : List D → Option Ret} {as : List Ev} (hn : as.length = n) {Q : VK} (h : rdR w (eF fn (toDs as)) σ H Q) : tCallS (spF w.K w.XR n fn) (WE w.W) (rdDs w (toDs as)) σ H Q := by
  obtain ⟨C, F, e, R, P⟩ := h
  refine bindP R P fun F1 H1 e1 ds vs h1 R1 E1 q1 P1 => ?_
  have hl : ∀ (as : List Ev) (e : Env) (ds : List D) (e1 : Env), toDs as e = .ok ds e1 → ds.length = as.length := by
    intro as
    induction as with
    | nil => intro e ds e1 h; cases h; rfl
    | cons a as ih =>
      intro e ds e1 h
      unfold toDs at h
      cases h2 : toD a e with
      | no => rw [h2] at h; cases h
      | ex x e2 => rw [h2] at h; cases h
      | ok x e2 =>
        rw [h2] at h
        have h : (toDs as e2).bind (fun xs e2 => .ok (x :: xs) e2) = .ok ds e1 := h
        cases h3 : toDs as e2 with
        | no => rw [h3] at h; cases h
        | ex y e3 => rw [h3] at h; cases h
        | ok xs e3 => rw [h3] at h; cases h; rw [List.length_cons, List.length_cons, ih _ _ _ h3]
  refine ⟨by rw [q1.length, hl _ _ _ _ h1]; exact hn, F1, ds, R1.ext, R1.tup, q1, ?_⟩
  split at P1
  · exact P1.elim
  · exact fun v F' H' A q => P1 v F' H' (R1.after A) A.ext (q.rv R1 A)
  · exact fun F' H' cv od A q => P1 F' H' cv od (R1.after A) A.ext q
/-- a def as it stands -/
structure Defn (P : Program) (W : World) (K : PySem.W.Frag) (mg : Str → Option Value) (base : Heap) (k : Nat) (x : Str) (n : Nat) (sp : Sp) : Prop where
  ex : ∃ (f : Addr) (fd : FuncData) (ps : List Str), mg x = some (.ref f) ∧ PySem.W.keepIn K (.ref f) = true ∧ Binds K fd ps [] ∧ ps.length = n ∧ FnG P W K mg base k f fd ps sp
section
variable {X : Cx} {W : WX} {XR : Hp → Hp → Xc → Value → Option Addr → Prop} {a b c : Expr} {es : List Expr} {ea eb ec : Ev} {as : List Ev} {pos p : Pos} {x : Str}
abbrev wd (X : Cx) (W : WX) (XR : Hp → Hp → Xc → Value → Option Addr → Prop) : Wd := ⟨X.K, W, XR⟩
theorem ve_call {k n : Nat} {fn : List D → Option Ret} (d : Defn X.prog X.w X.K X.mg X.base k x n (spF X.K XR n fn)) (hr : Room k X.A) (hu : X.A.guards = some []) (hg : Gl X x) (hx : ∀ σ, PassesAt (L2.CX X.prog X.w) X σ (WE W σ)) (hn : as.length = n)
    (ha : PA X (a :: es) (rdDs (wd X W XR) (toDs as))) (hdb : (x == ("__debug__" : Str)) = false := by decide) (he : starEach (a :: es) X.env = (false, eval a X.env) :: starEach es X.env := by rfl) (hpl : (backTo pos (starEach es X.env)).any (·.1) = false := by rfl) :
    PE X (.Call (.Name x p) (a :: es) [] pos) (rdR (wd X W XR) (eF fn (toDs as))) := by
  obtain ⟨f, fd, ps, hm, hk, hb, hl, F⟩ := d.ex
  exact pe_mono (pe_callG F hr hu hg hm hk hb hx ha hdb he hpl) fun _ _ _ h => rd_call hn h
theorem ve_var (i : Nat) (hN : X.N[i]? = some x := by rfl) (hv : Vis X.env.scope x := by first | exact Or.inl rfl | exact Or.inr (Or.inl rfl) | exact Or.inr (Or.inr rfl)) (hd : (x == ("__debug__" : Str)) = false := by decide)
    (hcd : (x == ("__classdict__" : Str)) = false := by decide) {w : Wd} : PE X (.Name x pos) (rdR w (eV i)) := pe_mono (pv i hN hv hd hcd) fun _ _ _ h => rd_var h
theorem ve_int {w : Wd} {i : Int} {j : Nat} : PE X (.Constant (.int i) j pos) (rdR w (eC (.int i))) := pe_mono pe_int fun _ _ _ h => rd_c (fun _ => .int i) h
theorem ve_bl {w : Wd} {i : Bool} {j : Nat} : PE X (.Constant (.bool i) j pos) (rdR w (eC (.bool i))) := pe_mono pe_bl fun _ _ _ h => rd_c (fun _ => .bl i) h
theorem ve_non {w : Wd} {j : Nat} : PE X (.Constant .none j pos) (rdR w (eC .none)) := pe_mono pe_non fun _ _ _ h => rd_c (fun _ => .non) h
theorem ve_str {w : Wd} {i : Str} {j : Nat} : PE X (.Constant (.str i) j pos) (rdR w (eC (.str i))) := pe_mono pe_str fun _ _ _ h => rd_c (fun _ => .str i) h
theorem ve_tup {w : Wd} {x1 : Nat} (h : PA X es (rdDs w (toDs as))) : PE X (.Tuple es x1 pos) (rdR w (eTup (toDs as))) := pe_mono (pe_tup h) fun _ _ _ h => rd_tup h
theorem ve_lst {w : Wd} (h : PA X es (rdDs w (toDs as))) : PE X (.List es pos) (rdR w (eLst (toDs as))) := pe_mono (pe_lst h) fun _ _ _ h => rd_lst h
theorem ve_blt {w : Wd} {id : String} {f : List D → Option Rv} {r : List V → Hp → VK → Prop} (hc : CallR X (.builtin id) r) (hs : CallS w.K f r) (hg : Gl X x) (hm : X.mg x = none) (hv : bootBuiltins x = some (.builtin id)) (ha : PA X (a :: es) (rdRs w (opds as)))
    (hn : x ≠ "__name__" := by decide) (hdb : (x == ("__debug__" : Str)) = false := by decide) (he : starEach (a :: es) X.env = (false, eval a X.env) :: starEach es X.env := by rfl) (hpl : (backTo pos (starEach es X.env)).any (·.1) = false := by rfl) :
    PE X (.Call (.Name x p) (a :: es) [] pos) (rdR w (eB f (opds as))) := pe_mono (pe_callB hc hg hm hv ha hn hdb he hpl) fun _ _ _ h => rd_blt hs h
theorem ve_bty {w : Wd} {T : String} {f : List D → Option Rv} {r : List V → Hp → VK → Prop} (hc : CallR X (.type T) r) (hs : CallS w.K f r) (hg : Gl X x) (hm : X.mg x = none) (hv : bootBuiltins x = some (.type T)) (ha : PA X (a :: es) (rdRs w (opds as)))
    (hn : x ≠ "__name__" := by decide) (hdb : (x == ("__debug__" : Str)) = false := by decide) (he : starEach (a :: es) X.env = (false, eval a X.env) :: starEach es X.env := by rfl) (hpl : (backTo pos (starEach es X.env)).any (·.1) = false := by rfl) :
    PE X (.Call (.Name x p) (a :: es) [] pos) (rdR w (eB f (opds as))) := pe_mono (pe_callTy hc hg hm hv ha hn hdb he hpl) fun _ _ _ h => rd_blt hs h
end
def asB : Rv → Env → Option Bool
  | .fz (.bool b), _ => some b
  | _, _ => none
def tst (a : Ev) : Sem1 Bool := fun e => (a e).bind fun x e1 => ofO (asB x e1) e1
def andT (a b : Sem1 Bool) : Sem1 Bool := fun e => (a e).bind fun x e1 => if x then b e1 else .ok false e1
def orT (a b : Sem1 Bool) : Sem1 Bool := fun e => (a e).bind fun x e1 => if x then .ok true e1 else b e1
def notT (a : Sem1 Bool) : Sem1 Bool := fun e => (a e).bind fun x e1 => .ok (!x) e1
def andV (a b : Ev) : Ev := fun e => (tst a e).bind fun x e1 => if x then b e1 else .ok (.fz (.bool false)) e1
def orV (a b : Ev) : Ev := fun e => (tst a e).bind fun x e1 => if x then .ok (.fz (.bool true)) e1 else b e1
def notV (a : Ev) : Ev := fun e => (tst a e).bind fun x e1 => .ok (.fz (.bool (!x))) e1
def iteV (c : Sem1 Bool) (a b : Ev) : Ev := fun e => (c e).bind fun x e1 => if x then a e1 else b e1
theorem Post.asB {w : Wd} {x : Rv} {v : V} (R : Rp w.K C F H e σ) (q : RvR w.K C F H e σ x v) {α β : Type} {RA : Cf → Hp → Hp → Env → L2.St → α → β → Prop} {Q : β → Hp → Prop} {f : Bool → Env → Rs α}
    (P : Post w RA C F σ Q ((ofO (asB x e) e).bind f)) : ∃ b, v = .bl b ∧ Post w RA C F σ Q (f b e) := by
  cases x with
  | fz d =>
    cases d with
    | bool b => cases q; exact ⟨b, rfl, P⟩
    | _ => exact P.elim
  | _ => exact P.elim
theorem rs_assoc {α β γ : Type} (r : Rs α) (f : α → Env → Rs β) (g : β → Env → Rs γ) : (r.bind f).bind g = r.bind fun a e => (f a e).bind g := by cases r <;> rfl
theorem rs_id {α : Type} (r : Rs α) : r.bind (fun a e => .ok a e) = r := by cases r <;> rfl
theorem rd_tst {w : Wd} {a : Ev} {Q : Bool → Hp → Prop} (h : rdT w (tst a) σ H Q) : rdR w a σ H fun x H' => ∃ k, x = .bl k ∧ Q k H' := by
  obtain ⟨C, F, e, R, P⟩ := h
  refine bindP R P fun F1 H1 e1 x v1 h1 R1 E1 q1 P1 => ?_
  rw [← rs_id (ofO (asB x e1) e1)] at P1
  obtain ⟨b, hb, P2⟩ := P1.asB R1 q1
  exact ⟨b, hb, P2.ok' R1 rfl⟩
section
variable {w : Wd} {X : Cx} {a b c : Expr} {rest : List Expr} {ea eb ec : Ev} {ta tb : Sem1 Bool} {pos : Pos}
/-- an expression's worth, as a test -/
theorem vt_val (h : PE X a (rdR w ea)) (he : ∀ whole, isTrue a X.env whole = (do let v ← whole; standAt a.pos; holding [v] (truthy v)) := by intro _; rfl) : PT X a (rdT w (tst ea)) :=
  pt_mono (pt_val h he) fun _ _ _ q => rd_tst q
theorem vt_cmp {op : CmpOp} {f : F2} {r : R2} (ho : OpR X (compareOp op) r) (hs : OpS w.K f r) (ha : PE X a (rdR w ea)) (hb : PE X b (rdR w eb)) (hm : behindInMarks op b = false) : PT X (.Compare a [op] [b] pos) (rdT w (tst (bin2 f ea eb))) :=
  pt_mono (pt_cmpR ho ha hb hm) fun _ _ _ q => rd_bin2 hs (rd_tst q)
theorem vt_not (h : PT X a (rdT w ta)) : PT X (.UnaryOp .Not a pos) (rdT w (notT ta)) := pt_mono (pt_not h) fun σ H Q q => by
  obtain ⟨C, F, e, R, P⟩ := q
  exact bindP R P fun F1 H1 e1 x v1 h1 R1 E1 q1 P1 => by cases q1; exact P1.ok' R1 rfl
theorem pw_mono {ex : Expr} {t t' : TT} (h : PW X ex t) (w : ∀ σ H Q, t' σ H Q → t σ H Q) : PW X ex t' := ⟨fun wh pins s σ H Q I q => h.run wh pins s σ H Q I (w σ H Q q)⟩
theorem vw_and1 (ha : PT X a (rdT w ta)) : PW X (.BoolOp .And [a] pos) (rdT w ta) := pw_and1 ha
theorem vw_or1 (ha : PT X a (rdT w ta)) : PW X (.BoolOp .Or [a] pos) (rdT w ta) := pw_or1 ha
theorem vw_and (ha : PT X a (rdT w ta)) (hb : PW X (.BoolOp .And (b :: rest) pos) (rdT w tb)) : PW X (.BoolOp .And (a :: b :: rest) pos) (rdT w (andT ta tb)) := pw_mono (pw_and ha hb) fun σ H Q q => by
  obtain ⟨C, F, e, R, P⟩ := q
  refine bindP R P fun F1 H1 e1 x v1 h1 R1 E1 q1 P1 => ?_
  cases q1
  cases x with
  | true => exact iteT ⟨C, F1, e1, R1, P1⟩
  | false => exact iteF (P1.ok' R1 rfl)
theorem vw_or (ha : PT X a (rdT w ta)) (hb : PW X (.BoolOp .Or (b :: rest) pos) (rdT w tb)) : PW X (.BoolOp .Or (a :: b :: rest) pos) (rdT w (orT ta tb)) := pw_mono (pw_or ha hb) fun σ H Q q => by
  obtain ⟨C, F, e, R, P⟩ := q
  refine bindP R P fun F1 H1 e1 x v1 h1 R1 E1 q1 P1 => ?_
  cases q1
  cases x with
  | true => exact iteT (P1.ok' R1 rfl)
  | false => exact iteF ⟨C, F1, e1, R1, P1⟩
theorem vt_bool (h : PW X a (rdT w ta)) : PT X a (rdT w ta) := h.pt
theorem rd_tst_bind {Q : VK} {f : Bool → Env → Rs Rv} (h : rdR w (fun e => (tst ea e).bind f) σ H Q) {Q1 : VK} (k : ∀ C F e1 H1 b, Rp w.K C F H1 e1 σ → Post w (RR w.K) C F σ Q (f b e1) → Q1 (.bl b) H1) : rdR w ea σ H Q1 := by
  obtain ⟨C, F, e, R, P⟩ := h
  have P : Post w (RR w.K) C F σ Q ((ea e).bind fun a e => (ofO (asB a e) e).bind f) := by rw [← rs_assoc]; exact P
  refine bindP R P fun F1 H1 e1 x v1 h1 R1 E1 q1 P1 => ?_
  obtain ⟨b, rfl, P2⟩ := P1.asB R1 q1
  exact k C F1 e1 H1 b R1 P2
theorem ve_one {op : BoolOp} (h : PE X a (rdR w ea)) : PE X (.BoolOp op [a] pos) (rdR w ea) := pe_one h
theorem ve_and (ha : PE X a (rdR w ea)) (hb : PE X (.BoolOp .And (b :: rest) pos) (rdR w eb)) : PE X (.BoolOp .And (a :: b :: rest) pos) (rdR w (andV ea eb)) := pe_mono (pe_and ha hb) fun σ H Q q => by
  refine rd_tst_bind q fun C F e1 H1 b R1 P1 => ⟨b, rfl, ?_⟩
  cases b with
  | true => exact iteT ⟨C, F, e1, R1, P1⟩
  | false => exact iteF (P1.ok' R1 (.bl false))
theorem ve_not (ha : PE X a (rdR w ea)) : PE X (.UnaryOp .Not a pos) (rdR w (notV ea)) := pe_mono (pe_not ha) fun σ H Q q => by
  exact rd_tst_bind q fun C F e1 H1 b R1 P1 => ⟨b, rfl, P1.ok' R1 (.bl _)⟩
def chain2 (f g : F2) (a b c : Ev) : Ev := fun e => (opd a e).bind fun x e1 => (opd b e1).bind fun y e2 => (ofO ((ap2 f x y e2).bind fun r => asB r e2) e2).bind fun k e3 =>
  if k then (opd c e3).bind fun z e4 => ofO (ap2 g y z e4) e4 else .ok (.fz (.bool false)) e3
end
end VI
set_option Elab.async false
set_option linter.all false
set_option maxRecDepth 100000
set_option maxHeartbeats 4000000
namespace VI
open PySem PySem.Spec PyProof.Rows L2
variable {K : PySem.W.Frag} {C : Cf} {F H : Hp} {e e' : Env} {σ : L2.St}
inductive Fl where
  | nx | bk | ct
  | ret (r : Rv)
abbrev St1 := Sem1 Fl
def PostS (w : Wd) (C : Cf) (F : Hp) (D : Ends) : Rs Fl → Prop
  | .no => False
  | .ok .nx e' => ∀ F' H' σ', Rp w.K C F' H' e' σ' → Ext F F' → D.nx σ' H'
  | .ok .bk e' => ∀ F' H' σ', Rp w.K C F' H' e' σ' → Ext F F' → D.bk σ' H'
  | .ok .ct e' => ∀ F' H' σ', Rp w.K C F' H' e' σ' → Ext F F' → D.ct σ' H'
  | .ok (.ret r) e' => ∀ v F' H' σ', Rp w.K C F' H' e' σ' → Ext F F' → RvR w.K C F' H' e' σ' r v → r.still = false ∨ (∃ d, r = .fz d) → D.rt v H'
  | .ex x e' => ∀ F' H' σ' cv od, Rp w.K C F' H' e' σ' → Ext F F' → w.XR F' H' x cv od → w.W cv od σ' H'
def rdS (w : Wd) (a : St1) : TS := fun D σ H => ∃ C F e, Rp w.K C F H e σ ∧ PostS w C F D (a e)
section
variable {w : Wd} {D : Ends}
theorem PostS.mono {F1 : Hp} (E : Ext F F1) {r : Rs Fl} (h : PostS w C F D r) : PostS w C F1 D r := by
  cases r with
  | no => exact h
  | ok a e' =>
    cases a with
    | nx => exact fun F' H' σ' R E' => h F' H' σ' R (E.trans E')
    | bk => exact fun F' H' σ' R E' => h F' H' σ' R (E.trans E')
    | ct => exact fun F' H' σ' R E' => h F' H' σ' R (E.trans E')
    | ret r => exact fun v F' H' σ' R E' => h v F' H' σ' R (E.trans E')
  | ex x e' => exact fun F' H' σ' cv od R E' q => h F' H' σ' cv od R (E.trans E') q
/-- an expression, then what is done with its worth -/
theorem bindS {α β : Type} {RA : Cf → Hp → Hp → Env → L2.St → α → β → Prop} {Q1 : β → Hp → Prop} {a : Sem1 α} {f : α → Env → Rs Fl} (R : Rp w.K C F H e σ) (P : PostS w C F D ((a e).bind f))
    (k : ∀ F1 H1 e1 x v, a e = .ok x e1 → Rp w.K C F1 H1 e1 σ → Ext F F1 → RA C F1 H1 e1 σ x v → PostS w C F1 D (f x e1) → Q1 v H1) : Rd w RA a σ H Q1 := by
  refine ⟨C, F, e, R, ?_⟩
  cases h1 : a e with
  | no => rw [h1] at P; exact False.elim P
  | ok x e1 =>
    rw [h1] at P
    exact fun v F' H' R' E q => k F' H' e1 x v h1 R' E q (PostS.mono E P)
  | ex x e1 => rw [h1] at P; exact fun F' H' cv od R E q => P F' H' σ cv od R E q
theorem PostS.nx' {e : Env} (P : PostS w C F D (.ok .nx e)) (R : Rp w.K C F H e σ) : D.nx σ H := P F H σ R (.refl F)
end
/-- a name that may be stored: it holds no lent list, none that was handed in -/
def freeAt (e : Env) (i : Nat) : Bool := match e[i]? with
  | some (some (.lent _)) => false
  | some (some (.io _)) => false
  | some (some (.tr _ _)) => false
  | some _ => true
  | none => false
def put (i : Nat) (d : D) (e : Env) : Option Env := if freeAt e i then some (e.set i (some (.fz d))) else none
def store (i : Nat) (r : Rv) (e : Env) : Rs Fl := match r with
  | .fresh ds => if freeAt e i then .ok .nx (e.set i (some (.own ds))) else .no
  | r => (frz r e).bind fun d e1 => if freeAt e1 i then .ok .nx (e1.set i (some (.fz d))) else .no
theorem TrAt.unset {i j : Nat} {x : Sv} {o : Option V} {fp : List Addr} (hx : ∀ b t, x ≠ .tr b t) (h : TrAt K H (e.set i (some x)) (σ.set i o) j fp) : TrAt K H e σ j fp ∧ i ≠ j := by
  obtain ⟨b, t, v, F', he, hv, o⟩ := h
  rcases getset he with ⟨rfl, he'⟩ | ⟨hj, he⟩
  · exact absurd (Option.some.inj he') (hx b t)
  · exact ⟨⟨b, t, v, F', he, by rwa [List.getElem?_set_ne hj] at hv, o⟩, hj⟩
theorem ApT.set {p : Addr} {i : Nat} {x : Sv} {o : Option V} (h : ApT K H e σ p) (hx : ∀ b t, x ≠ .tr b t) : ApT K H (e.set i (some x)) (σ.set i o) p := fun j fp ht => h j fp (ht.unset hx).1
theorem Rp.put (R : Rp K C F H e σ) {i : Nat} {d : D} {v : V} (h : freeAt e i = true) (q : Dp K F v d) : Rp K C F H (e.set i (some (.fz d))) (σ.set i (some v)) := by
  refine ⟨by rw [List.length_set, List.length_set]; exact R.len, R.ext, R.off, R.frm, fun j x hx => ?_, R.ml, fun j k x y hjk hx hy mx my => ?_, tn_sub R.tn (fun j y hy => ?_) (fun j y hy my => ?_) (fun j y hy => ?_), R.tup⟩
  · rcases getset hx with ⟨rfl, hx'⟩ | ⟨hj, hx⟩
    · cases hx'
      have : i < σ.length := by
        rw [← R.len]
        unfold freeAt at h
        split at h <;> first | (cases h; done) | skip
        rename_i hs; exact (List.getElem?_eq_some_iff.mp hs).1
      exact ⟨v, by rw [List.getElem?_set_self this], q⟩
    · obtain ⟨u, hu, z⟩ := R.sl j x hx
      exact ⟨u, by rw [List.getElem?_set_ne hj]; exact hu, z⟩
  · rcases getset hx with ⟨rfl, hx'⟩ | ⟨hj, hx⟩
    · cases hx'; cases mx
    · rcases getset hy with ⟨rfl, hy'⟩ | ⟨hk, hy⟩
      · cases hy'; cases my
      · rw [List.getElem?_set_ne hj, List.getElem?_set_ne hk]; exact R.ne j k x y hjk hx hy mx my
  · rcases getset hy with ⟨rfl, hy'⟩ | ⟨hj, hy⟩
    · cases hy'
    · exact hy
  · rcases getset hy with ⟨rfl, hy'⟩ | ⟨hj, hy⟩
    · cases hy'; cases my
    · exact ⟨_, hy, my, List.getElem?_set_ne hj⟩
  · rcases getset hy with ⟨rfl, hy'⟩ | ⟨hj, hy⟩
    · cases hy'
    · exact List.getElem?_set_ne hj
theorem Rp.putOwn (R : Rp K C F H e σ) {i : Nat} {ds : List D} {p : Addr} {vs : List V} (h : freeAt e i = true) (hp : H p = some (.lst vs)) (hd : DpAll K F vs ds) (hF : F p = none) (hM : ¬ C.M p) (ap : Apar K H e σ p) :
    Rp K C F H (e.set i (some (.own ds))) (σ.set i (some (.ref p))) := by
  have up : ∀ {j fp}, TrAt K H (e.set i (some (.own ds))) (σ.set i (some (.ref p))) j fp → TrAt K H e σ j fp ∧ j ≠ i := fun {j fp} h => by
    obtain ⟨b, t, v, F', he, hv, o⟩ := h
    rcases getset he with ⟨rfl, he'⟩ | ⟨hj, he⟩
    · cases he'
    · exact ⟨⟨b, t, v, F', he, by rwa [List.getElem?_set_ne hj] at hv, o⟩, Ne.symm hj⟩
  refine ⟨by rw [List.length_set, List.length_set]; exact R.len, R.ext, R.off, R.frm, fun j x hx => ?_, R.ml, fun j k x y hjk hx hy mx my => ?_, fun j fp h => ⟨fun a ha k y hy my hs => ?_, fun k fp' hk h' => (R.tn j fp (up h).1).2 k fp' hk (up h').1⟩, R.tup⟩
  · rcases getset hx with ⟨rfl, hx'⟩ | ⟨hj, hx⟩
    · cases hx'
      have : i < σ.length := by
        rw [← R.len]
        unfold freeAt at h
        split at h <;> first | (cases h; done) | skip
        rename_i hs; exact (List.getElem?_eq_some_iff.mp hs).1
      exact ⟨.ref p, by rw [List.getElem?_set_self this], p, vs, rfl, hp, hd, hF, hM⟩
    · obtain ⟨u, hu, z⟩ := R.sl j x hx
      exact ⟨u, by rw [List.getElem?_set_ne hj]; exact hu, z⟩
  · have lt : i < σ.length := by
        rw [← R.len]
        unfold freeAt at h
        split at h <;> first | (cases h; done) | skip
        rename_i hs; exact (List.getElem?_eq_some_iff.mp hs).1
    rcases getset hx with ⟨rfl, hx'⟩ | ⟨hj, hx⟩
    · rcases getset hy with ⟨rfl, hy'⟩ | ⟨hk, hy⟩
      · exact absurd rfl hjk
      · rw [List.getElem?_set_self lt, List.getElem?_set_ne hk]; exact fun z => ap.1 k y hy my z.symm
    · rcases getset hy with ⟨rfl, hy'⟩ | ⟨hk, hy⟩
      · rw [List.getElem?_set_self lt, List.getElem?_set_ne hj]; exact fun z => ap.1 j x hx mx z
      · rw [List.getElem?_set_ne hj, List.getElem?_set_ne hk]; exact R.ne j k x y hjk hx hy mx my
  · have lt : i < σ.length := by
        rw [← R.len]
        unfold freeAt at *
        split at * <;> first | (simp at *; done) | skip
        rename_i hs; exact (List.getElem?_eq_some_iff.mp hs).1
    rcases getset hy with ⟨rfl, hy'⟩ | ⟨hk, hy⟩
    · rw [List.getElem?_set_self lt] at hs
      cases hs
      exact ap.2 j fp (up h).1 ha
    · rw [List.getElem?_set_ne hk] at hs
      exact (R.tn j fp (up h).1).1 a ha k y hy my hs
theorem PostS.store {w : Wd} {D : Ends} {i : Nat} {r : Rv} {v : V} (R : Rp w.K C F H e σ) (q : RvR w.K C F H e σ r v) (P : PostS w C F D (store i r e)) : D.nx (σ.set i (some v)) H := by
  have fin : ∀ {F : Hp} {e : Env}, Rp w.K C F H e σ → ∀ d, Dp w.K F v d → PostS w C F D (if freeAt e i then .ok .nx (e.set i (some (.fz d))) else .no) → D.nx (σ.set i (some v)) H := fun R d q P => by
    split at P
    · rename_i hf
      exact P.nx' (R.put hf q)
    · exact P.elim
  cases r with
  | fresh ds =>
    unfold VI.store at P
    simp only at P
    obtain ⟨p, vs, rfl, hp, hd, hF, hM, ap⟩ := q
    split at P
    · rename_i hf
      exact P.nx' (R.putOwn hf hp hd hF hM ap)
    · exact P.elim
  | fz d => exact fin R d q P
  | bor j =>
    have h' : σ[j]? = some (some v) := q
    have P : PostS w C F D ((VI.frz (.bor j) e).bind fun d e1 => if freeAt e1 i then .ok .nx (e1.set i (some (.fz d))) else .no) := P
    unfold VI.frz at P
    simp only at P
    split at P
    · rename_i d' hd
      obtain ⟨u, hu, z⟩ := R.sl _ _ hd
      rw [h'] at hu; cases hu
      exact fin R d' z P
    · rename_i ds hd
      obtain ⟨F', u, R', E, hu, z⟩ := R.rest hd
      rw [h'] at hu; cases hu
      exact fin R' _ z (PostS.mono E P)
    · exact P.elim
structure Tg where
  run : D → Env → Option Env
  ix : List Nat
def rdG (w : Wd) (t : Tg) : TG := fun v σ H Q => ∃ C F e d e', Rp w.K C F H e σ ∧ Dp w.K F v d ∧ t.run d e = some e' ∧ ∀ σ', Rp w.K C F H e' σ' → (∀ vs, (∀ i ∈ t.ix, i ∈ vs) → wipe σ' vs = wipe σ vs) → Q σ' H
def tgV (i : Nat) : Tg := ⟨put i, [i]⟩
theorem wipe_set {i : Nat} {x : Option V} : ∀ {vs : List Nat} {σ : L2.St}, i ∈ vs → wipe (σ.set i x) vs = wipe σ vs := by
  intro vs
  induction vs with
  | nil => intro σ h; cases h
  | cons j vs ih =>
    intro σ h
    unfold wipe
    by_cases hj : i ∈ vs
    · rw [ih hj]
    · have e : i = j := by rcases List.mem_cons.mp h with z | z; exact z; exact absurd z hj
      subst e
      have : ∀ (vs : List Nat) (σ : L2.St), i ∉ vs → wipe (σ.set i x) vs = (wipe σ vs).set i x := by
        intro vs
        induction vs with
        | nil => intro σ _; rfl
        | cons j vs ih2 =>
          intro σ h2
          unfold wipe
          have hij : i ≠ j := fun z => h2 (z ▸ List.mem_cons_self)
          by_cases q : i ∈ vs
          · exact absurd (List.mem_cons_of_mem _ q) h2
          · rw [ih2 σ q, List.set_comm _ _ hij]
      rw [this vs σ hj, List.set_set]
theorem rd_tgV {w : Wd} {i : Nat} {v : V} {Q : L2.St → Hp → Prop} (h : rdG w (tgV i) v σ H Q) : gName i v σ H Q := by
  obtain ⟨C, F, e, d, e', R, q, hr, k⟩ := h
  have hr : put i d e = some e' := hr
  unfold put at hr
  split at hr
  · rename_i hf
    cases hr
    exact k _ (R.put hf q) fun vs hv => wipe_set (hv i (by simp [tgV]))
  · cases hr
def tgRun : List Tg → List D → Env → Option Env
  | [], [], e => some e
  | t :: ts, d :: ds, e => (t.run d e).bind fun e1 => tgRun ts ds e1
  | _, _, _ => none
def tgT (ts : List Tg) : Tg := ⟨fun d e => match d with | .tuple ds => tgRun ts ds e | .list ds => tgRun ts ds e | _ => none, ts.flatMap (·.ix)⟩
def rdGs (w : Wd) (ts : List Tg) : TGs := fun vs σ H Q => ∃ C F e ds e', Rp w.K C F H e σ ∧ DpAll w.K F vs ds ∧ tgRun ts ds e = some e' ∧ ∀ σ', Rp w.K C F H e' σ' → (∀ vs, (∀ i ∈ ts.flatMap (·.ix), i ∈ vs) → wipe σ' vs = wipe σ vs) → Q σ' H
theorem rd_tgs_nil {w : Wd} {vs : List V} {Q : L2.St → Hp → Prop} (h : rdGs w [] vs σ H Q) : gNil vs σ H Q := by
  obtain ⟨C, F, e, ds, e', R, q, hr, k⟩ := h
  cases ds with
  | nil => cases q; cases hr; exact ⟨rfl, k σ R fun _ _ => rfl⟩
  | cons d ds => cases hr
theorem rd_tgs_cons {w : Wd} {t : Tg} {ts : List Tg} {vs : List V} {Q : L2.St → Hp → Prop} (h : rdGs w (t :: ts) vs σ H Q) : gCons (rdG w t) (rdGs w ts) vs σ H Q := by
  obtain ⟨C, F, e, ds, e', R, q, hr, k⟩ := h
  cases ds with
  | nil => cases hr
  | cons d ds =>
    cases q with
    | cons q1 q2 =>
      obtain ⟨e1, h1, h2⟩ := Option.bind_eq_some_iff.mp hr
      refine ⟨_, _, rfl, C, F, e, d, e1, R, q1, h1, fun σ1 R1 w1 => ⟨C, F, e1, ds, e', R1, q2, h2, fun σ2 R2 w2 => k σ2 R2 fun vs hv => ?_⟩⟩
      rw [w2 vs fun i hi => hv i (by simp only [List.flatMap_cons, List.mem_append]; exact .inr hi), w1 vs fun i hi => hv i (by simp only [List.flatMap_cons, List.mem_append]; exact .inl hi)]
theorem tgRun_len : ∀ {ts : List Tg} {ds : List D} {e e' : Env}, tgRun ts ds e = some e' → ds.length = ts.length
  | [], [], _, _, _ => rfl
  | t :: ts, d :: ds, e, e', h => by
    obtain ⟨e1, _, h2⟩ := Option.bind_eq_some_iff.mp h
    rw [List.length_cons, List.length_cons, tgRun_len h2]
  | [], _ :: _, _, _, h => by cases h
  | _ :: _, [], _, _, h => by cases h
theorem rd_tgT {w : Wd} {ts : List Tg} {v : V} {Q : L2.St → Hp → Prop} (h : rdG w (tgT ts) v σ H Q) : gTup w.K ts.length (rdGs w ts) v σ H Q ∨ gLst w.K ts.length (rdGs w ts) v σ H Q := by
  obtain ⟨C, F, e, d, e', R, q, hr, k⟩ := h
  cases q with
  | tup hs hd =>
    have hr : tgRun ts _ e = some e' := hr
    exact .inl ⟨_, _, rfl, ext_t R.ext hs, by rw [hd.length]; exact tgRun_len hr, C, F, e, _, e', R, hd, hr, k⟩
  | lst hs hd =>
    have hr : tgRun ts _ e = some e' := hr
    exact .inr ⟨_, _, rfl, .inl (ext_rd R.ext hs), by rw [hd.length]; exact tgRun_len hr, C, F, e, _, e', R, hd, hr, k⟩
  | _ => cases hr
section
variable {X : Cx} {w : Wd} {tg : Expr} {es : List Expr} {t : Tg} {ts : List Tg} {pos : Pos} {x : Str}
theorem pg_mono {t t' : TG} (h : PG X tg t) (w : ∀ v σ H Q, t' v σ H Q → t v σ H Q) : PG X tg t' := ⟨fun pins s σ H v u Q I r q => h.run pins s σ H v u Q I r (w v σ H Q q)⟩
theorem pgs_mono {t t' : TGs} (h : PGs X es t) (w : ∀ v σ H Q, t' v σ H Q → t v σ H Q) : PGs X es t' := ⟨fun pins s σ H v u Q I r q => h.run pins s σ H v u Q I r (w v σ H Q q)⟩
theorem pg_or {t t' : TG} (h : PG X tg t) (h' : PG X tg t') : PG X tg (fun v σ H Q => t v σ H Q ∨ t' v σ H Q) := ⟨fun pins s σ H v u Q I r q => q.elim (h.run pins s σ H v u Q I r) (h'.run pins s σ H v u Q I r)⟩
theorem vg_name {i : Nat} (hN : X.N.Nodup) (hi : X.N[i]? = some x) (hx : Loc X.env.scope x) (hf : X.fn x = true ∨ X.env.scope.names.lookup x = some .local := by first | exact .inl rfl | exact .inr rfl | assumption) : PG X (.Name x pos) (rdG w (tgV i)) :=
  pg_mono (pg_name hN hi hx hf) fun _ _ _ _ h => rd_tgV h
theorem vgs_nil : PGs X [] (rdGs w []) := pgs_mono pgs_nil fun _ _ _ _ h => rd_tgs_nil h
end
end VI
set_option Elab.async false
set_option linter.all false
set_option maxRecDepth 100000
set_option maxHeartbeats 4000000
namespace VI
open PySem PySem.Spec PyProof.Rows L2
variable {K : PySem.W.Frag} {C : Cf} {F H : Hp} {e e' : Env} {σ : L2.St}
section
variable {X : Cx} {w : Wd} {tg : Expr} {es : List Expr} {t : Tg} {ts : List Tg} {pos : Pos} {x : Str}
theorem vgs_cons (h1 : PG X tg (rdG w t)) (h2 : PGs X es (rdGs w ts)) (hs : (assignEach (tg :: es) X.env).map (·.2) = assign tg X.env :: (assignEach es X.env).map (·.2) := by rfl) : PGs X (tg :: es) (rdGs w (t :: ts)) :=
  pgs_mono (pgs_cons h1 h2 hs) fun _ _ _ _ h => rd_tgs_cons h
/-- a, b = a tuple or a list -/
theorem vg_tup {W : WX} {XR : Hp → Hp → Xc → Value → Option Addr → Prop} {k : Nat} (hc : X.calm = true) (h : PGs X es (rdGs (wd X W XR) ts)) (hn : (assignEach es X.env).length = ts.length := by rfl) (hst : (assignEach es X.env).findIdx? (·.1) = none := by rfl) :
    PG X (.Tuple es k pos) (rdG (wd X W XR) (tgT ts)) := pg_mono (pg_or (pg_tup hc h hn hst) (pg_lst hc h hn hst)) fun _ _ _ _ h => rd_tgT h
end
def skipS : St1 := fun e => .ok .nx e
def seqS (a b : St1) : St1 := fun e => (a e).bind fun f e1 => match f with
  | .nx => b e1
  | f => .ok f e1
def block : List St1 → St1
  | [] => skipS
  | [a] => a
  | a :: as => seqS a (block as)
section
variable {w : Wd} {D : Ends} {a b : St1}
theorem rd_skip (h : rdS w skipS D σ H) : tNext D σ H := by
  obtain ⟨C, F, e, R, P⟩ := h
  exact P.nx' R
theorem rd_seq (h : rdS w (seqS a b) D σ H) : tSeq (rdS w a) (rdS w b) D σ H := by
  obtain ⟨C, F, e, R, P⟩ := h
  refine ⟨C, F, e, R, ?_⟩
  unfold seqS at P
  cases h1 : a e with
  | no => rw [h1] at P; exact P
  | ok f e1 =>
    rw [h1] at P
    cases f with
    | nx => exact fun F' H' σ' R' E => ⟨C, F', e1, R', PostS.mono E P⟩
    | bk => exact P
    | ct => exact P
    | ret r => exact P
  | ex x e1 => rw [h1] at P; exact P
end
section
variable {X : Cx} {w : Wd} {st : Stmt} {rest : List Stmt} {a b : St1} {as : List St1}
theorem vss_nil : PSs X [] (rdS w (block [])) := pss_mono pss_nil fun _ _ _ h => rd_skip h
theorem vss_one (h : PS X st (rdS w a)) : PSs X [st] (rdS w (block [a])) := pss_one h
theorem vss_cons (h1 : PS X st (rdS w a)) (h2 : PSs X rest (rdS w (block (b :: as)))) : PSs X (st :: rest) (rdS w (block (a :: b :: as))) := pss_mono (pss_cons h1 h2) fun _ _ _ h => rd_seq h
end
def asgS (i : Nat) (a : Ev) : St1 := fun e => (a e).bind fun r e1 => store i r e1
def asgTS (t : Tg) (a : Ev) : St1 := fun e => (toD a e).bind fun d e1 => match t.run d e1 with
  | some e2 => .ok .nx e2
  | none => .no
def putR (i : Nat) (r : Rv) (e : Env) : Rs Fl := match r with
  | .fz d' => if freeAt e i then .ok .nx (e.set i (some (.fz d'))) else .no
  | _ => .no
def augS (f : F2) (i : Nat) (a : Ev) : St1 := fun e => match e[i]? with
  | some (some (.fz d)) => (opd a e).bind fun y e1 => match e1[i]? with
    | some (some (.fz _)) => (ofO ((peek y e1).bind fun dy => f d dy) e1).bind fun r e2 => putR i r e2
    | _ => .no
  | _ => .no
def exprS (a : Ev) : St1 := fun e => (a e).bind fun _ e1 => .ok .nx e1
def retS (a : Ev) : St1 := fun e => (a e).bind fun r e1 => match r with
  | .fz d => .ok (.ret (.fz d)) e1
  | .fresh ds => .ok (.ret (.fresh ds)) e1
  | .bor i => match e1[i]? with
    | some (some (.own ds)) => .ok (.ret (.fresh ds)) (e1.set i none)
    | some (some (.fz d)) => .ok (.ret (.fz d)) e1
    | _ => .no
def retN : St1 := fun e => .ok (.ret (.fz .none)) e
def bkS : St1 := fun e => .ok .bk e
def ctS : St1 := fun e => .ok .ct e
def ifS (c : Sem1 Bool) (a b : St1) : St1 := fun e => (c e).bind fun k e1 => if k then a e1 else b e1
section
variable {w : Wd} {D : Ends} {a : Ev} {i : Nat} {c : Sem1 Bool} {s1 s2 : St1}
theorem rd_asg (h : rdS w (asgS i a) D σ H) : tAsg (rdR w a) (gName i) D σ H := by
  obtain ⟨C, F, e, R, P⟩ := h
  exact bindS R P fun F1 H1 e1 x v h1 R1 E1 q1 P1 => P1.store R1 q1
theorem rd_expr (h : rdS w (exprS a) D σ H) : tDrop (rdR w a) D σ H := by
  obtain ⟨C, F, e, R, P⟩ := h
  exact bindS R P fun F1 H1 e1 x v h1 R1 E1 q1 P1 => P1.nx' R1
theorem Rp.forget (R : Rp K C F H e σ) (i : Nat) : Rp K C F H (e.set i none) σ := by
  have low : ∀ {j : Nat} {y : Sv}, (e.set i none)[j]? = some (some y) → e[j]? = some (some y) := fun {j y} h => by
    rcases getset h with ⟨rfl, h'⟩ | ⟨hj, h⟩
    · cases h'
    · exact h
  refine ⟨by rw [List.length_set]; exact R.len, R.ext, R.off, R.frm, fun j x hx => ?_, R.ml, fun j k x y hjk hx hy mx my => ?_, tn_sub R.tn (fun j y hy => low hy) (fun j y hy my => ⟨y, low hy, my, rfl⟩), R.tup⟩
  · exact R.sl j x (low hx)
  · exact R.ne j k x y hjk (low hx) (low hy) mx my
theorem rd_ret (h : rdS w (retS a) D σ H) : tRet (rdR w a) D σ H := by
  obtain ⟨C, F, e, R, P⟩ := h
  refine bindS R P fun F1 H1 e1 x v h1 R1 E1 q1 P1 => ?_
  cases x with
  | fz d => exact P1 v F1 H1 σ R1 (.refl F1) q1 (.inr ⟨d, rfl⟩)
  | fresh ds => exact P1 v F1 H1 σ R1 (.refl F1) q1 (.inl rfl)
  | bor i =>
    have h' : σ[i]? = some (some v) := q1
    simp only at P1
    split at P1
    · rename_i ds hd
      obtain ⟨u, hu, p, vs, rfl, hp, hds, hF, hM⟩ := R1.sl _ _ hd
      rw [h'] at hu; cases hu
      refine P1 _ F1 H1 σ (R1.forget i) (.refl F1) ⟨p, vs, rfl, hp, hds, hF, hM, fun j y hy my hs => ?_, fun j fp ht hq => ?_⟩ (.inl rfl)
      · rcases getset hy with ⟨rfl, hy'⟩ | ⟨hj, hy⟩
        · cases hy'
        · exact R1.ne i j _ _ hj hd hy rfl my (by rw [h', hs])
      · obtain ⟨b, t, v, F', he, hv, o⟩ := ht
        rcases getset he with ⟨rfl, he'⟩ | ⟨hj, he⟩
        · cases he'
        · exact (R1.tn j fp ⟨b, t, v, F', he, hv, o⟩).1 p hq i _ hd rfl h'
    · rename_i d hd
      obtain ⟨u, hu, z⟩ := R1.sl _ _ hd
      rw [h'] at hu; cases hu
      exact P1 v F1 H1 σ R1 (.refl F1) z (.inr ⟨d, rfl⟩)
    · exact P1.elim
theorem rd_if (h : rdS w (ifS c s1 s2) D σ H) : tIfS (rdT w c) (rdS w s1) (rdS w s2) D σ H := by
  obtain ⟨C, F, e, R, P⟩ := h
  refine bindS R P fun F1 H1 e1 x v h1 R1 E1 q1 P1 => ?_
  cases q1
  cases x with
  | true => exact iteT ⟨C, F1, e1, R1, P1⟩
  | false => exact iteF ⟨C, F1, e1, R1, P1⟩
end
section
variable {X : Cx} {w : Wd} {ex c : Expr} {st : Stmt} {ss tt : List Stmt} {a : Ev} {s1 s2 : St1} {tc : Sem1 Bool} {t : Tg} {tg : Expr} {pos pos' : Pos} {x : Str} {i : Nat}
theorem vs_asg (hN : X.N.Nodup) (hi : X.N[i]? = some x) (hx : Loc X.env.scope x) (he : PE X ex (rdR w a)) (hs : swapsWith ex (some (.Name x pos')) pos.line X.env = pure false := by rfl) (hf : X.fn x = true ∨ X.env.scope.names.lookup x = some .local := by first | exact .inl rfl | exact .inr rfl | assumption) :
    PS X (.Assign [.Name x pos'] ex pos) (rdS w (asgS i a)) := ps_mono (ps_set hN hi hx he hs hf) fun _ _ _ h => rd_asg h
theorem vs_expr (he : PE X ex (rdR w a)) (hs : swapsWith ex none pos.line X.env = pure false := by rfl) : PS X (.Expr ex pos) (rdS w (exprS a)) := ps_mono (ps_expr he hs) fun _ _ _ h => rd_expr h
theorem vs_ret (he : PE X ex (rdR w a)) : PS X (.Return (some ex) pos) (rdS w (retS a)) := ps_mono (ps_ret he) fun _ _ _ h => rd_ret h
theorem vs_if (hc : PT X c (rdT w tc)) (h1 : PSs X ss (rdS w s1)) (h2 : PSs X tt (rdS w s2)) : PS X (.If c ss tt pos) (rdS w (ifS tc s1 s2)) := ps_mono (ps_if hc h1 h2) fun _ _ _ h => rd_if h
end
structure Src where
  items : List D
  lend : List Nat
def unlend : List Nat → Env → Env
  | [], e => e
  | i :: is, e => match e[i]? with
    | some (some (.lent ds)) => unlend is (e.set i (some (.own ds)))
    | _ => unlend is e
/-- the iterator J gives these items, whatever happens to what is free -/
structure ItOk (K : PySem.W.Frag) (C : Cf) (F : Hp) (J : It) (items : List D) : Prop where
  ex : ∃ (Gd : Hp → Prop) (Y : Nat → Hp → V → Hp → Prop), Walk J items.length Gd Y ∧ (∀ F2 H2 e2 σ2, Rp K C F2 H2 e2 σ2 → Ext F F2 → Gd H2) ∧
    ∀ i x H1 H2 F1, Ext F F1 → Ext F1 H1 → TupIn F1 H1 → Y i H1 x H2 → i < items.length → ∃ d, items[i]? = some d ∧ Res K F1 H1 (.fz d) x H2
/-- what was lent comes back -/
structure Back (K : PySem.W.Frag) (C C' : Cf) (l : List Nat) : Prop where
  rp : ∀ F2 H2 e2 σ2, Rp K C' F2 H2 e2 σ2 → Rp K C F2 H2 (unlend l e2) σ2
  rv : ∀ F2 H2 e2 σ2 ds v, Rp K C' F2 H2 e2 σ2 → RvR K C' F2 H2 e2 σ2 (.fresh ds) v → RvR K C F2 H2 (unlend l e2) σ2 (.fresh ds) v
def PostI (w : Wd) (C : Cf) (F : Hp) (σ : L2.St) (Rr : It → Hp → Prop) : Rs Src → Prop
  | .no => False
  | .ok s e1 => ∀ (C' : Cf) J F' H', Rp w.K C' F' H' e1 σ → Ext F F' → Back w.K C C' s.lend → ItOk w.K C' F' J s.items → Rr J H'
  | .ex x e' => ∀ F' H' cv od, Rp w.K C F' H' e' σ → Ext F F' → w.XR F' H' x cv od → w.W cv od σ H'
def rdI (w : Wd) (it : Sem1 Src) : TI := fun σ H Rr => ∃ C F e, Rp w.K C F H e σ ∧ PostI w C F σ Rr (it e)
theorem PostI.mono {w : Wd} {F1 : Hp} {Rr : It → Hp → Prop} (E : Ext F F1) {r : Rs Src} (h : PostI w C F σ Rr r) : PostI w C F1 σ Rr r := by
  cases r with
  | no => exact h
  | ok a e' => exact fun C' J F' H' R E' => h C' J F' H' R (E.trans E')
  | ex x e' => exact fun F' H' cv od R E' q => h F' H' cv od R (E.trans E') q
theorem bindI {w : Wd} {α β : Type} {RA : Cf → Hp → Hp → Env → L2.St → α → β → Prop} {Q1 : β → Hp → Prop} {Rr : It → Hp → Prop} {a : Sem1 α} {f : α → Env → Rs Src} (R : Rp w.K C F H e σ) (P : PostI w C F σ Rr ((a e).bind f))
    (k : ∀ F1 H1 e1 x v, a e = .ok x e1 → Rp w.K C F1 H1 e1 σ → Ext F F1 → RA C F1 H1 e1 σ x v → PostI w C F1 σ Rr (f x e1) → Q1 v H1) : Rd w RA a σ H Q1 := by
  refine ⟨C, F, e, R, ?_⟩
  cases h1 : a e with
  | no => rw [h1] at P; exact False.elim P
  | ok x e1 =>
    rw [h1] at P
    exact fun v F' H' R' E q => k F' H' e1 x v h1 R' E q (PostI.mono E P)
  | ex x e1 => rw [h1] at P; exact fun F' H' cv od R E q => P F' H' cv od R E q
def Rs.fin {α : Type} (f : Env → Env) : Rs α → Rs α
  | .no => .no
  | .ok a e => .ok a (f e)
  | .ex x e => .ex x (f e)
/-- the turns of a loop over these items -/
def turns (t : Tg) (b : St1) : List D → St1
  | [] => fun e => .ok .nx e
  | d :: ds => fun e => match t.run d e with
    | none => .no
    | some e1 => (b e1).bind fun f e2 => match f with
      | .nx => turns t b ds e2
      | .ct => turns t b ds e2
      | .bk => .ok .nx e2
      | .ret r => .ok (.ret r) e2
def forS (it : Sem1 Src) (t : Tg) (b : St1) : St1 := fun e => (it e).bind fun s e1 => (turns t b s.items e1).fin (unlend s.lend)
theorem rd_for {w : Wd} {D : Ends} {it : Sem1 Src} {t : Tg} {b : St1} (h : rdS w (forS it t b) D σ H) : tFor (rdI w it) (rdG w t) (rdS w b) D σ H := by
  obtain ⟨C, F, e, R, P⟩ := h
  refine ⟨C, F, e, R, ?_⟩
  unfold forS at P
  cases h1 : it e with
  | no => rw [h1] at P; exact P
  | ex x e1 => rw [h1] at P; exact fun F' H' cv od R E q => P F' H' σ cv od R E q
  | ok s e1 =>
    rw [h1] at P
    intro C' J F' H' R' E back ok
    obtain ⟨Gd, Y, wk, hGd, hY⟩ := ok.ex
    have P : PostS w C F' D ((turns t b s.items e1).fin (unlend s.lend)) := PostS.mono E P
    refine for_it wk (fun i σ1 H1 => ∃ F1 e2, Rp w.K C' F1 H1 e2 σ1 ∧ Ext F' F1 ∧ PostS w C F1 D ((turns t b (s.items.drop i) e2).fin (unlend s.lend))) ⟨F', e1, R', .refl F', P⟩ (fun i σ1 H1 _ ⟨F1, e2, R1, E1, _⟩ => hGd F1 H1 e2 σ1 R1 E1) ?_ ?_
    · rintro i x σ1 H1 H2 hi ⟨F1, e2, R1, E1, P1⟩ y
      obtain ⟨d, hd, res⟩ := hY i x H1 H2 F1 E1 R1.ext R1.tup y hi
      obtain ⟨F2, R2, E2, q2⟩ := res.rp R1
      have hdrop : s.items.drop i = d :: s.items.drop (i + 1) := by
        rw [← List.getElem_cons_drop (h := hi)]
        rw [List.getElem?_eq_getElem hi] at hd
        rw [Option.some.inj hd]
      rw [hdrop] at P1
      unfold turns at P1
      cases h2 : t.run d e2 with
      | none => rw [h2] at P1; exact P1.elim
      | some e3 =>
        rw [h2] at P1
        refine ⟨C', F2, e2, d, e3, R2, q2, h2, fun σ2 R3 _ => ⟨C', F2, e3, R3, ?_⟩⟩
        have E02 : Ext F' F2 := E1.trans E2
        have P1 : PostS w C F2 D (((b e3).bind fun f e2 => match f with | .nx => turns t b (s.items.drop (i + 1)) e2 | .ct => turns t b (s.items.drop (i + 1)) e2 | .bk => .ok .nx e2 | .ret r => .ok (.ret r) e2).fin (unlend s.lend)) := PostS.mono E2 P1
        cases h3 : b e3 with
        | no => rw [h3] at P1; exact P1
        | ex x e4 => rw [h3] at P1; exact fun F' H' σ' cv od R E q => P1 F' H' σ' cv od (back.rp _ _ _ _ R) E q
        | ok f e4 =>
          rw [h3] at P1
          cases f with
          | nx => exact fun F3 H3 σ3 R4 E3 => ⟨F3, e4, R4, E02.trans E3, PostS.mono E3 P1⟩
          | ct => exact fun F3 H3 σ3 R4 E3 => ⟨F3, e4, R4, E02.trans E3, PostS.mono E3 P1⟩
          | bk => exact fun F3 H3 σ3 R4 E3 => P1 F3 H3 σ3 (back.rp _ _ _ _ R4) E3
          | ret r =>
            intro v F3 H3 σ3 R4 E3 q hr
            refine P1 v F3 H3 σ3 (back.rp _ _ _ _ R4) E3 ?_ hr
            cases r with
            | fz d => exact q
            | fresh ds => exact back.rv _ _ _ _ ds v R4 q
            | bor j => rcases hr with hr | ⟨_, hr⟩ <;> cases hr
    · rintro σ1 H1 ⟨F1, e2, R1, E1, P1⟩
      rw [List.drop_length] at P1
      exact P1 F1 H1 σ1 (back.rp _ _ _ _ R1) (.refl F1)
theorem vs_for {X : Cx} {w : Wd} {tg iter : Expr} {body : List Stmt} {it : Sem1 Src} {t : Tg} {b : St1} {pos : Pos} (hp : PassesOwn (model X.prog X.w) X.A X.env X.xe) (hc : X.calm = true) (hi : PI X tg iter (rdI w it)) (hg : PG X tg (rdG w t)) (hb : PSs X body (rdS w b))
    (hs : ∀ x, foldedSetIterable iter X.env x = pure x := by intro _; rfl) : PS X (.For tg iter body [] pos) (rdS w (forS it t b)) := ps_mono (ps_for hp hc hi hg hb hs) fun _ _ _ h => rd_for h
def srcR (r : Rv) (e : Env) : Rs Src := match r with
  | .fz (.list ds) => .ok ⟨ds, []⟩ e
  | .fz (.tuple ds) => .ok ⟨ds, []⟩ e
  | .bor i => match e[i]? with
    | some (some (.fz (.list ds))) => .ok ⟨ds, []⟩ e
    | some (some (.fz (.tuple ds))) => .ok ⟨ds, []⟩ e
    | some (some (.lent ds)) => .ok ⟨ds, []⟩ e
    | some (some (.own ds)) => .ok ⟨ds, [i]⟩ (e.set i (some (.lent ds)))
    | _ => .no
  | _ => .no
def srcE (a : Ev) : Sem1 Src := fun e => (opd a e).bind srcR
theorem back_nil : Back K C C [] := ⟨fun _ _ _ _ R => R, fun _ _ _ _ _ _ _ q => q⟩
/-- a list or a tuple that stands still, walked as it is -/
theorem itOk_list {F : Hp} {a : Addr} {xs : List V} {ds : List D} (hd : DpAll K F xs ds) (hs : ∀ F2 H2 e2 σ2, Rp K C F2 H2 e2 σ2 → Ext F F2 → SqL K H2 a xs) : ItOk K C F (Itl K a) ds := by
  refine ⟨fun H => SqL K H a xs, YAt xs, by rw [← hd.length]; exact walk_list, hs, fun i x H1 H2 F1 E _ _ y hi => ?_⟩
  obtain ⟨rfl, hx⟩ := y
  obtain ⟨d, h1, h2⟩ := hd.get' hx
  exact ⟨d, h1, .old (Dp.ext E h2)⟩
theorem itOk_tup {F : Hp} {a : Addr} {xs : List V} {ds : List D} (hd : DpAll K F xs ds) (hs : ∀ F2 H2 e2 σ2, Rp K C F2 H2 e2 σ2 → Ext F F2 → SqT K H2 a xs) : ItOk K C F (Itt K a) ds := by
  refine ⟨fun H => SqT K H a xs, YAt xs, by rw [← hd.length]; exact walk_tup, hs, fun i x H1 H2 F1 E _ _ y hi => ?_⟩
  obtain ⟨rfl, hx⟩ := y
  obtain ⟨d, h1, h2⟩ := hd.get' hx
  exact ⟨d, h1, .old (Dp.ext E h2)⟩
/-- the cfg in which i's list is lent -/
def Cf.lendC (C : Cf) (H : Hp) (i : Nat) (p : Addr) : Cf := ⟨fun a => C.M a ∨ a = p, H, fun j => if j = i then p else C.lam j, fun j => C.Ml j ∨ j = i⟩
theorem Rp.lend (R : Rp K C F H e σ) {i : Nat} {ds : List D} {p : Addr} {vs : List V} (he : e[i]? = some (some (.own ds))) (hv : σ[i]? = some (some (.ref p))) (hp : H p = some (.lst vs)) (hd : DpAll K F vs ds) (hF : F p = none) (hM : ¬ C.M p) :
    Rp K (C.lendC H i p) F H (e.set i (some (.lent ds))) σ ∧ Back K C (C.lendC H i p) [i] := by
  have ne : ∀ j y, j ≠ i → e[j]? = some (some y) → y.mu = true → σ[j]? ≠ some (some (.ref p)) := fun j y hj hy my z => R.ne i j _ _ (Ne.symm hj) he hy rfl my (by rw [hv, z])
  have lowT : ∀ {j : Nat} {y : Bool × OT}, (e.set i (some (.lent ds)))[j]? = some (some (Sv.tr y.1 y.2)) → e[j]? = some (some (Sv.tr y.1 y.2)) := fun {j y} h => by
    rcases getset h with ⟨rfl, h'⟩ | ⟨hj, h⟩
    · cases h'
    · exact h
  refine ⟨⟨by rw [List.length_set]; exact R.len, R.ext, fun a ha => ?_, fun a ha => ⟨rfl, ?_⟩, fun j x hx => ?_, fun j hj => ?_, fun j k x y hjk hx hy mx my => ?_, tn_sub R.tn (fun j y hy => lowT hy) (fun j y hy my => ?_), R.tup⟩, ⟨fun F2 H2 e2 σ2 R2 => ?_, fun F2 H2 e2 σ2 ds v R2 q => ?_⟩⟩
  · rcases ha with ha | rfl
    · exact R.off a ha
    · exact hF
  · rcases ha with ha | rfl
    · show H a ≠ none; rw [(R.frm a ha).1]; exact (R.frm a ha).2
    · show H a ≠ none; rw [hp]; exact fun z => by cases z
  · rcases getset hx with ⟨rfl, hx'⟩ | ⟨hj, hx⟩
    · cases hx'
      refine ⟨_, hv, vs, ?_, ?_, hd, .inr rfl⟩
      · show _ = V.ref (if _ then p else _); rw [if_pos rfl]
      · show H (if _ then p else _) = _; rw [if_pos rfl]; exact hp
    · obtain ⟨u, hu, q⟩ := R.sl j x hx
      refine ⟨u, hu, ?_⟩
      have hl : (C.lendC H i p).lam j = C.lam j := by show (if j = i then p else C.lam j) = _; rw [if_neg (Ne.symm hj)]
      cases x with
      | fz d => exact q
      | own ds' =>
        obtain ⟨p', vs', rfl, h1, h2, h3, h4⟩ := q
        refine ⟨p', vs', rfl, h1, h2, h3, fun z => ?_⟩
        rcases z with z | rfl
        · exact h4 z
        · exact ne j _ (Ne.symm hj) hx rfl hu
      | lent ds' =>
        obtain ⟨vs', rfl, h1, h2, h3⟩ := q
        exact ⟨vs', by rw [hl], by rw [hl]; exact h1, h2, .inl h3⟩
      | io ds' =>
        obtain ⟨vs', rfl, h1, h2, h3, h4⟩ := q
        refine ⟨vs', by rw [hl], by rw [hl]; exact h1, h2, by rw [hl]; exact h3, fun z => ?_⟩
        rw [hl] at z
        rcases z with z | z
        · exact h4 z
        · exact ne j _ (Ne.symm hj) hx rfl (by rw [hu, z])
      | tr b t =>
        obtain ⟨fp, o, nd, h, hb⟩ := q
        refine ⟨fp, o, nd, fun a ha => ⟨(h a ha).1, fun z => ?_⟩, by rw [hl]; exact hb⟩
        rcases z with z | z
        · exact (h a ha).2 z
        · exact (R.tn j fp ⟨b, t, u, F, hx, hu, o⟩).1 a ha i _ he rfl (by rw [hv, z])
  · show C.M _ ∨ _ = p
    rcases hj with hj | rfl
    · by_cases q : j = i
      · right; show (if j = i then p else _) = p; rw [if_pos q]
      · left; show C.M (if j = i then p else _); rw [if_neg q]; exact R.ml j hj
    · right; show (if _ then p else _) = p; rw [if_pos rfl]
  · rcases getset hx with ⟨rfl, hx'⟩ | ⟨hj, hx⟩
    · cases hx'; cases mx
    · rcases getset hy with ⟨rfl, hy'⟩ | ⟨hk, hy⟩
      · cases hy'; cases my
      · exact R.ne j k x y hjk hx hy mx my
  · rcases getset hy with ⟨rfl, hy'⟩ | ⟨hj, hy⟩
    · cases hy'; cases my
    · exact ⟨_, hy, my, rfl⟩
  -- back
  · have weak : Rp K C F2 H2 (match e2[i]? with | some (some (.lent ds)) => e2.set i (some (.own ds)) | _ => e2) σ2 ∨ True := .inr trivial
    have ofs : ∀ j x u, j ≠ i → SvR K (C.lendC H i p) F2 H2 j x u → SvR K C F2 H2 j x u := fun j x u hj q => by
      have hl : (C.lendC H i p).lam j = C.lam j := by show (if j = i then p else C.lam j) = _; rw [if_neg hj]
      cases x with
      | fz d => exact q
      | own ds' => obtain ⟨p', vs', rfl, h1, h2, h3, h4⟩ := q; exact ⟨p', vs', rfl, h1, h2, h3, fun z => h4 (.inl z)⟩
      | lent ds' =>
        obtain ⟨vs', rfl, h1, h2, h3⟩ := q
        rw [hl] at h1
        refine ⟨vs', by rw [hl], h1, h2, ?_⟩
        rcases h3 with h3 | h3
        · exact h3
        · exact absurd h3 hj
      | io ds' =>
        obtain ⟨vs', rfl, h1, h2, h3, h4⟩ := q
        rw [hl] at h1 h3 h4
        exact ⟨vs', by rw [hl], h1, h2, h3, fun z => h4 (.inl z)⟩
      | tr b t =>
        obtain ⟨fp, o, nd, h, hb⟩ := q
        rw [hl] at hb
        exact ⟨fp, o, nd, fun a ha => ⟨(h a ha).1, fun z => (h a ha).2 (.inl z)⟩, hb⟩
    have frm : ∀ a, C.M a → H2 a = C.G a ∧ C.G a ≠ none := fun a ha => by
      have h := R2.frm a (.inl ha)
      have h' := R.frm a ha
      exact ⟨h.1.trans h'.1, h'.2⟩
    have hl : (C.lendC H i p).lam i = p := by show (if i = i then p else _) = p; rw [if_pos rfl]
    cases hq : e2[i]? with
    | none => 
      have : unlend [i] e2 = e2 := by unfold unlend; rw [hq]; rfl
      rw [this]
      exact ⟨R2.len, R2.ext, fun a ha => R2.off a (.inl ha), frm, fun j x hx => by
        have hj : j ≠ i := fun z => by rw [z, hq] at hx; cases hx
        obtain ⟨u, hu, q⟩ := R2.sl j x hx
        exact ⟨u, hu, ofs j x u hj q⟩, R.ml, R2.ne, R2.tn, R2.tup⟩
    | some o =>
      by_cases hlent : ∃ ds', o = some (.lent ds')
      · obtain ⟨ds', rfl⟩ := hlent
        have : unlend [i] e2 = e2.set i (some (.own ds')) := by unfold unlend; rw [hq]; rfl
        rw [this]
        obtain ⟨u, hu, vs', hu', h1, h2, h3⟩ := R2.sl i _ hq
        rw [hl] at hu' h1
        subst hu'
        have pF : F2 p = none := R2.off p (.inr rfl)
        have apt : ∀ j y, j ≠ i → e2[j]? = some (some y) → y.mu = true → σ2[j]? ≠ some (some (.ref p)) := fun j y hj hy my z => by
          obtain ⟨u, hu, q⟩ := R2.sl j y hy
          rw [z] at hu; cases hu
          cases y with
          | fz d => cases my
          | own ds' => obtain ⟨p', vs', h0, _, _, _, h4⟩ := q; cases h0; exact h4 (.inr rfl)
          | lent ds' => cases my
          | io ds' => obtain ⟨vs', h0, _, _, _, h4⟩ := q; injection h0 with h0; rw [← h0] at h4; exact h4 (.inr rfl)
          | tr b t => cases my
        have upT : ∀ {j fp}, TrAt K H2 (e2.set i (some (.own ds'))) σ2 j fp → TrAt K H2 e2 σ2 j fp := fun {j fp} h => by
          obtain ⟨b, t, v, F', he, hv, o⟩ := h
          rcases getset he with ⟨rfl, he'⟩ | ⟨hj, he⟩
          · cases he'
          · exact ⟨b, t, v, F', he, hv, o⟩
        refine ⟨by rw [List.length_set]; exact R2.len, R2.ext, fun a ha => R2.off a (.inl ha), frm, fun j x hx => ?_, R.ml, fun j k x y hjk hx hy mx my => ?_, fun j fp h => ⟨fun a ha k y hy my hs => ?_, fun k fp' hk h' => (R2.tn j fp (upT h)).2 k fp' hk (upT h')⟩, R2.tup⟩
        · rcases getset hx with ⟨rfl, hx'⟩ | ⟨hj, hx⟩
          · cases hx'; exact ⟨_, hu, p, vs', rfl, h1, h2, pF, hM⟩
          · obtain ⟨u, hu, q⟩ := R2.sl j x hx
            exact ⟨u, hu, ofs j x u (Ne.symm hj) q⟩
        · rcases getset hx with ⟨rfl, hx'⟩ | ⟨hj, hx⟩
          · rcases getset hy with ⟨rfl, hy'⟩ | ⟨hk, hy⟩
            · exact absurd rfl hjk
            · rw [hu]; exact fun z => apt k y (Ne.symm hk) hy my z.symm
          · rcases getset hy with ⟨rfl, hy'⟩ | ⟨hk, hy⟩
            · rw [hu]; exact fun z => apt j x (Ne.symm hj) hx mx z
            · exact R2.ne j k x y hjk hx hy mx my
        · rcases getset hy with ⟨rfl, hy'⟩ | ⟨hk, hy⟩
          · rw [hu] at hs; cases hs
            exact ((R2.trFp (upT h)).1 _ ha).2.1 (.inr rfl)
          · exact (R2.tn j fp (upT h)).1 a ha k y hy my hs
      · have : unlend [i] e2 = e2 := by
          unfold unlend; rw [hq]
          cases o with
          | none => rfl
          | some x => cases x <;> first | rfl | exact absurd ⟨_, rfl⟩ hlent
        rw [this]
        refine ⟨R2.len, R2.ext, fun a ha => R2.off a (.inl ha), frm, fun j x hx => ?_, R.ml, R2.ne, R2.tn, R2.tup⟩
        obtain ⟨u, hu, q⟩ := R2.sl j x hx
        refine ⟨u, hu, ?_⟩
        by_cases hj : j = i
        · subst hj
          rw [hq] at hx; cases hx
          cases x with
          | fz d => exact q
          | own ds' => obtain ⟨p', vs', rfl, h1, h2, h3, h4⟩ := q; exact ⟨p', vs', rfl, h1, h2, h3, fun z => h4 (.inl z)⟩
          | lent ds' => exact absurd ⟨_, rfl⟩ hlent
          | io ds' => obtain ⟨vs', h0, h1, h2, h3, h4⟩ := q; rw [hl] at h4; exact absurd (.inr rfl) h4
          | tr b t =>
            obtain ⟨fp, o, nd, h, hb⟩ := q
            refine ⟨fp, o, nd, fun a ha => ⟨(h a ha).1, fun z => (h a ha).2 (.inl z)⟩, fun z => ?_⟩
            have := hb z
            rw [hl] at this
            exact absurd (.inr rfl) (h p this.2).2
        · exact ofs j x u hj q
  · obtain ⟨p', vs', rfl, h1, h2, h3, h4, ap⟩ := q
    refine ⟨p', vs', rfl, h1, h2, h3, fun z => h4 (.inl z), fun j y hy my hs => ?_, fun j fp h => ap.2 j fp ?_⟩
    rotate_left
    · obtain ⟨b, t, v, F', he, hv, o⟩ := h
      unfold unlend at he
      split at he
      · rename_i ds' hds
        have he : (e2.set i (some (.own ds')))[j]? = some (some (Sv.tr b t)) := he
        rcases getset he with ⟨rfl, he'⟩ | ⟨hj, he⟩
        · cases he'
        · exact ⟨b, t, v, F', he, hv, o⟩
      · exact ⟨b, t, v, F', he, hv, o⟩
    unfold unlend at hy
    split at hy
    · rename_i ds' hds
      have hy : (e2.set i (some (.own ds')))[j]? = some (some y) := hy
      rcases getset hy with ⟨rfl, hy'⟩ | ⟨hj, hy⟩
      · obtain ⟨u, hu, vs2, hu', q1, q2, q3⟩ := R2.sl _ _ hds
        have hl : (C.lendC H i p).lam i = p := by show (if i = i then p else _) = p; rw [if_pos rfl]
        rw [hs] at hu; cases hu
        rw [hl] at hu'; cases hu'
        exact h4 (.inr rfl)
      · exact ap.1 j y hy my hs
    · exact ap.1 j y hy my hs
/-- one that is to be walked: it stands at a -/
theorem PostI.src {w : Wd} {r : Rv} {v : V} {Rr : It → Hp → Prop} (R : Rp w.K C F H e σ) (hs : r.still = true) (q : RvR w.K C F H e σ r v) (P : PostI w C F σ Rr (srcR r e)) :
    ((∀ ds, peek r e ≠ some (.tuple ds)) → ∃ a, v = .ref a ∧ (∃ xs, SqL w.K H a xs) ∧ Rr (Itl w.K a) H) ∧ (∀ ds, peek r e = some (.tuple ds) → ∃ a, v = .ref a ∧ (∃ xs, SqT w.K H a xs) ∧ Rr (Itt w.K a) H) := by
  have lst : ∀ {ds : List D}, Dp w.K F v (.list ds) → PostI w C F σ Rr (.ok ⟨ds, []⟩ e) → ∃ a, v = .ref a ∧ (∃ xs, SqL w.K H a xs) ∧ Rr (Itl w.K a) H := fun {ds} z P => by
    cases z with
    | lst h1 h2 => exact ⟨_, rfl, ⟨_, .inl (ext_rd R.ext h1)⟩, P C (Itl w.K _) F H R (.refl F) back_nil (itOk_list h2 fun F2 H2 e2 σ2 R2 E2 => .inl (ext_rd (E2.trans R2.ext) h1))⟩
  have tup : ∀ {ds : List D}, Dp w.K F v (.tuple ds) → PostI w C F σ Rr (.ok ⟨ds, []⟩ e) → ∃ a, v = .ref a ∧ (∃ xs, SqT w.K H a xs) ∧ Rr (Itt w.K a) H := fun {ds} z P => by
    cases z with
    | tup h1 h2 => exact ⟨_, rfl, ⟨_, ext_t R.ext h1⟩, P C (Itt w.K _) F H R (.refl F) back_nil (itOk_tup h2 fun F2 H2 e2 σ2 R2 E2 => ext_t (E2.trans R2.ext) h1)⟩
  cases r with
  | fresh ds => cases hs
  | fz d =>
    cases d with
    | list ds => exact ⟨fun _ => lst q P, fun ds' z => by cases z⟩
    | tuple ds => exact ⟨fun z => absurd rfl (z ds), fun ds' z => tup q P⟩
    | _ => exact P.elim
  | bor i =>
    have h' : σ[i]? = some (some v) := q
    unfold srcR at P
    simp only at P
    split at P
    · rename_i ds hd
      obtain ⟨u, hu, z⟩ := R.sl _ _ hd
      rw [h'] at hu; cases hu
      refine ⟨fun _ => lst z P, fun ds' z => ?_⟩
      have z : look e i = some (.tuple ds') := z
      unfold look at z; rw [hd] at z; cases z
    · rename_i ds hd
      obtain ⟨u, hu, z⟩ := R.sl _ _ hd
      rw [h'] at hu; cases hu
      refine ⟨fun n => absurd ?_ (n ds), fun ds' _ => tup z P⟩
      show look e i = _
      unfold look; rw [hd]
    · rename_i ds hd
      obtain ⟨u, hu, vs, rfl, h1, h2, h3⟩ := R.sl _ _ hd
      rw [h'] at hu; cases hu
      refine ⟨fun _ => ⟨_, rfl, ⟨_, SqL.of h1⟩, P C (Itl w.K _) F H R (.refl F) back_nil (itOk_list h2 fun F2 H2 e2 σ2 R2 E2 => SqL.of ?_)⟩, fun ds' z => ?_⟩
      · have k1 := R.frm _ (R.ml _ h3)
        have k2 := R2.frm _ (R.ml _ h3)
        rw [k2.1, ← k1.1]; exact h1
      · have z : look e i = some (.tuple ds') := z
        unfold look at z; rw [hd] at z; cases z
    · rename_i ds hd
      obtain ⟨u, hu, p, vs, rfl, h1, h2, h3, h4⟩ := R.sl _ _ hd
      rw [h'] at hu; cases hu
      obtain ⟨R1, B⟩ := R.lend hd h' h1 h2 h3 h4
      refine ⟨fun _ => ⟨_, rfl, ⟨_, SqL.of h1⟩, P (C.lendC H i p) (Itl w.K p) F H R1 (.refl F) B (itOk_list h2 fun F2 H2 e2 σ2 R2 E2 => SqL.of ?_)⟩, fun ds' z => ?_⟩
      · rw [(R2.frm p (.inr rfl)).1]; exact h1
      · have z : look e i = some (.tuple ds') := z
        unfold look at z; rw [hd] at z; cases z
    · exact P.elim
theorem rd_src {w : Wd} {a : Ev} {Rr : It → Hp → Prop} (h : rdI w (srcE a) σ H Rr) : iList w.K (rdR w a) σ H Rr ∨ iTup w.K (rdR w a) σ H Rr := by
  obtain ⟨C, F, e, R, P⟩ := h
  by_cases ht : ∃ r e1 ds, opd a e = .ok r e1 ∧ peek r e1 = some (.tuple ds)
  · right
    refine rd_opd (bindI R P fun F1 H1 e1 r v h1 R1 E1 q1 P1 => ?_)
    obtain ⟨r', e1', ds, z1, z2⟩ := ht
    rw [z1] at h1; cases h1
    exact (P1.src R1 (opd_still z1) q1).2 ds z2
  · left
    refine rd_opd (bindI R P fun F1 H1 e1 r v h1 R1 E1 q1 P1 => ?_)
    exact (P1.src R1 (opd_still h1) q1).1 fun ds z => ht ⟨r, e1, ds, h1, z⟩
section
variable {X : Cx} {w : Wd} {tg iter a b c : Expr} {ea : Ev} {W : WX} {XR : Hp → Hp → Xc → Value → Option Addr → Prop}
theorem pi_mono {t t' : TI} (h : PI X tg iter t) (w : ∀ σ H R, t' σ H R → t σ H R) : PI X tg iter t' := ⟨fun pins s σ H R I q => h.run pins s σ H R I (w σ H R q)⟩
theorem pi_or {t t' : TI} (h : PI X tg iter t) (h' : PI X tg iter t') : PI X tg iter (fun σ H R => t σ H R ∨ t' σ H R) := ⟨fun pins s σ H R I q => q.elim (h.run pins s σ H R I) (h'.run pins s σ H R I)⟩
/-- over a list or a tuple -/
theorem vi_src (h : PE X iter (rdR (wd X W XR) ea)) : PI X tg iter (rdI (wd X W XR) (srcE ea)) := pi_mono (pi_or (pi_list h) (pi_tup h)) fun _ _ _ q => rd_src q
end
def intsOf (lo : Int) (n : Nat) : List D := (List.range n).map fun i => .int (lo + (i : Nat))
theorem itOk_range {F : Hp} {lo : Int} {n : Nat} : ItOk K C F (Itr lo n) (intsOf lo n) := by
  have hl : (intsOf lo n).length = n := by unfold intsOf; rw [List.length_map, List.length_range]
  refine ⟨fun _ => True, YFn fun i => .int (lo + i), by rw [hl]; exact walk_range, fun _ _ _ _ _ _ => trivial, fun i x H1 H2 F1 E _ _ y hi => ?_⟩
  obtain ⟨rfl, rfl⟩ := y
  refine ⟨.int (lo + (i : Nat)), ?_, .old (.int _)⟩
  unfold intsOf
  rw [hl] at hi
  rw [List.getElem?_map, List.getElem?_range hi]
  rfl
def inR (i : Int) : Bool := decide (-(2 ^ 62) ≤ i) && decide (i < 2 ^ 62)
def rng1 (a : Ev) : Sem1 Src := fun e => (opd a e).bind fun r e1 => match r with
  | .fz (.int j) => if inR j then .ok ⟨intsOf 0 j.toNat, []⟩ e1 else .no
  | _ => .no
def rng2 (a b : Ev) : Sem1 Src := fun e => (opd a e).bind fun r e1 => (opd b e1).bind fun s e2 => match r, s with
  | .fz (.int i), .fz (.int j) => if inR i && inR j then .ok ⟨intsOf i (j - i).toNat, []⟩ e2 else .no
  | _, _ => .no
theorem inR_ok {i : Int} (h : inR i = true) : -(2 ^ 62) ≤ i ∧ i < 2 ^ 62 := by
  unfold inR at h
  simpa using h
theorem rd_rng1 {w : Wd} {a : Ev} {Rr : It → Hp → Prop} (h : rdI w (rng1 a) σ H Rr) : iRng1 (tCons (rdR w a) tNil) σ H Rr := by
  obtain ⟨C, F, e, R, P⟩ := h
  refine rd_opd (bindI R P fun F1 H1 e1 r v h1 R1 E1 q1 P1 => ?_)
  split at P1
  · rename_i j
    split at P1
    · rename_i hj
      cases q1
      exact ⟨j, rfl, (inR_ok hj).1, (inR_ok hj).2, P1 C _ F1 H1 R1 (.refl F1) back_nil itOk_range⟩
    · exact P1.elim
  · exact P1.elim
section
variable {X : Cx} {w : Wd} {tg a b c : Expr} {ea eb : Ev} {p pos : Pos}
theorem vi_rng1 (hg : Gl X "range") (hm : X.mg "range" = none) (ha : PE X a (rdR w ea)) (h1 : starEach [a] X.env = (false, eval a X.env) :: starEach [] X.env := by rfl) (hs : starEach [a] X.env = [(false, eval a X.env)] := by rfl) : PI X tg (.Call (.Name "range" p) [a] [] pos) (rdI w (rng1 ea)) :=
  pi_mono (pi_range1 hg hm (pa_cons ha pa_nil h1) hs) fun _ _ _ q => rd_rng1 q
end
end VI
set_option Elab.async false
set_option linter.all false
set_option maxRecDepth 100000
set_option maxHeartbeats 4000000
namespace VI
open PySem PySem.Spec PyProof.Rows L2
variable {K : PySem.W.Frag} {C : Cf} {F H : Hp} {e e' : Env} {σ : L2.St}
def wipeE (e : Env) : List Nat → Env
  | [] => e
  | v :: vs => (wipeE e vs).set v none
/-- the block's own names get back what they held, where that lay still -/
def backE (e0 : Env) : List Nat → Env → Env
  | [], e => e
  | v :: vs, e => match e0[v]? with
    | some (some (.fz d)) => (backE e0 vs e).set v (some (.fz d))
    | _ => (backE e0 vs e).set v none
def lcTurns (t : Tg) (c : Sem1 Bool) (elt : Ev) (own : List Nat) : List D → Env → Option (List D × Env)
  | [], e => some ([], e)
  | d :: ds, e => match t.run d e with
    | none => none
    | some e1 => match c e1 with
      | .ok true e2 => match toD elt e2 with
        | .ok y e3 => (lcTurns t c elt own ds (wipeE e3 own)).bind fun r => some (y :: r.1, r.2)
        | _ => none
      | .ok false e2 => lcTurns t c elt own ds (wipeE e2 own)
      | _ => none
def lcS (it : Sem1 Src) (t : Tg) (c : Sem1 Bool) (elt : Ev) (own : List Nat) : Ev := fun e => (it e).bind fun s e1 =>
  if s.items.length ≤ sizeLine ∧ (∀ i ∈ t.ix, i ∈ own) then match lcTurns t c elt own s.items (wipeE e1 own) with
    | none => .no
    | some (ds, e2) => .ok (.fresh ds) (unlend s.lend (backE e1 own e2))
  else .no
def yesT : Sem1 Bool := fun e => .ok true e
/-- in a block nothing is raised -/
def Wd.calm (w : Wd) : Wd := ⟨w.K, fun _ _ _ _ => False, w.XR⟩
theorem wipeE_get {e : Env} {i : Nat} {x : Sv} : ∀ {vs : List Nat}, (wipeE e vs)[i]? = some (some x) → e[i]? = some (some x) ∧ i ∉ vs
  | [], h => ⟨h, by simp⟩
  | v :: vs, h => by
    unfold wipeE at h
    rcases getset h with ⟨_, z⟩ | ⟨hn, h⟩
    · cases z
    · obtain ⟨h1, h2⟩ := wipeE_get h
      exact ⟨h1, by simp only [List.mem_cons, not_or]; exact ⟨fun z => hn z.symm, h2⟩⟩
theorem wipeE_len {e : Env} : ∀ {vs : List Nat}, (wipeE e vs).length = e.length
  | [] => rfl
  | v :: vs => by unfold wipeE; rw [List.length_set, wipeE_len]
theorem wipe_len {σ : L2.St} : ∀ {vs : List Nat}, (wipe σ vs).length = σ.length
  | [] => rfl
  | v :: vs => by unfold wipe; rw [List.length_set, wipe_len]
theorem Rp.wipe (R : Rp K C F H e σ) (vs : List Nat) : Rp K C F H (wipeE e vs) (L2.wipe σ vs) := by
  have at' : ∀ {i : Nat} {x : Sv}, (wipeE e vs)[i]? = some (some x) → e[i]? = some (some x) ∧ (L2.wipe σ vs)[i]? = σ[i]? := fun {i x} h => by
    obtain ⟨h1, h2⟩ := wipeE_get h
    exact ⟨h1, wipe_out h2⟩
  refine ⟨by rw [wipeE_len, wipe_len]; exact R.len, R.ext, R.off, R.frm, fun i x hx => ?_, R.ml, fun i j x y hij hx hy mx my => ?_, tn_sub R.tn (fun j y hy => (at' hy).1) (fun j y hy my => ⟨y, (at' hy).1, my, (at' hy).2⟩) (fun j y hy => (at' hy).2), R.tup⟩
  · obtain ⟨h1, h2⟩ := at' hx
    rw [h2]; exact R.sl i x h1
  · obtain ⟨h1, h2⟩ := at' hx
    obtain ⟨h3, h4⟩ := at' hy
    rw [h2, h4]; exact R.ne i j x y hij h1 h3 mx my
theorem backE_get {e0 e : Env} {i : Nat} {x : Sv} : ∀ {vs : List Nat}, (backE e0 vs e)[i]? = some (some x) → (i ∈ vs ∧ e0[i]? = some (some x) ∧ ∃ d, x = .fz d) ∨ (i ∉ vs ∧ e[i]? = some (some x))
  | [], h => .inr ⟨by simp, h⟩
  | v :: vs, h => by
    unfold backE at h
    have key : ∀ {o : Option Sv}, ((backE e0 vs e).set v o)[i]? = some (some x) → (v = i ∧ o = some x) ∨ (v ≠ i ∧ (backE e0 vs e)[i]? = some (some x)) := fun h => getset h
    have rest : v ≠ i → (backE e0 vs e)[i]? = some (some x) → (i ∈ v :: vs ∧ e0[i]? = some (some x) ∧ ∃ d, x = .fz d) ∨ (i ∉ v :: vs ∧ e[i]? = some (some x)) := fun hn h => by
      rcases backE_get h with ⟨h1, h2⟩ | ⟨h1, h2⟩
      · exact .inl ⟨List.mem_cons_of_mem _ h1, h2⟩
      · exact .inr ⟨by simp only [List.mem_cons, not_or]; exact ⟨fun z => hn z.symm, h1⟩, h2⟩
    split at h
    · rename_i d hd
      rcases key h with ⟨rfl, z⟩ | ⟨hn, h⟩
      · cases z; exact .inl ⟨List.mem_cons_self, hd, d, rfl⟩
      · exact rest hn h
    · rcases key h with ⟨rfl, z⟩ | ⟨hn, h⟩
      · cases z
      · exact rest hn h
theorem backE_len {e0 e : Env} : ∀ {vs : List Nat}, (backE e0 vs e).length = e.length
  | [] => rfl
  | v :: vs => by
    unfold backE
    split <;> rw [List.length_set, backE_len]
/-- behind the block -/
theorem Rp.unwipe {F1 H1 : Hp} {e0 e1 : Env} (R0 : Rp K C F H e0 σ) {vs : List Nat} (R : Rp K C F1 H1 e1 (L2.wipe σ vs)) (E : Ext F F1) : Rp K C F1 H1 (backE e0 vs e1) σ := by
  have lowT : ∀ {j : Nat} {y : Sv}, (∀ d, y ≠ .fz d) → (backE e0 vs e1)[j]? = some (some y) → e1[j]? = some (some y) ∧ (L2.wipe σ vs)[j]? = σ[j]? := fun {j y} nf hy => by
    rcases backE_get hy with ⟨_, _, d, rfl⟩ | ⟨h1, h2⟩
    · exact absurd rfl (nf d)
    · exact ⟨h2, wipe_out h1⟩
  refine ⟨by rw [backE_len, R.len, wipe_len], R.ext, R.off, R.frm, fun i x hx => ?_, R.ml, fun i j x y hij hx hy mx my => ?_, tn_sub R.tn (fun j y hy => (lowT (fun d z => by cases z) hy).1) (fun j y hy my => ⟨y, (lowT (fun d z => by subst z; cases my) hy).1, my, (lowT (fun d z => by subst z; cases my) hy).2.symm⟩) (fun j y hy => (lowT (fun d z => by cases z) hy).2.symm), R.tup⟩
  · rcases backE_get hx with ⟨h1, h2, d, rfl⟩ | ⟨h1, h2⟩
    · obtain ⟨v, hv, q⟩ := R0.sl i _ h2
      exact ⟨v, hv, Dp.ext E q⟩
    · obtain ⟨v, hv, q⟩ := R.sl i x h2
      rw [wipe_out h1] at hv
      exact ⟨v, hv, q⟩
  · rcases backE_get hx with ⟨h1, h2, d, rfl⟩ | ⟨h1, h2⟩
    · cases mx
    · rcases backE_get hy with ⟨h3, h4, d, rfl⟩ | ⟨h3, h4⟩
      · cases my
      · have := R.ne i j x y hij h2 h4 mx my
        rwa [wipe_out h1, wipe_out h3] at this
theorem Apar.wipe {p : Addr} (h : Apar K H e σ p) (vs : List Nat) : Apar K H (wipeE e vs) (L2.wipe σ vs) p := by
  refine ⟨fun i x hx mx => ?_, fun i fp ht => h.2 i fp ?_⟩
  · obtain ⟨k1, k2⟩ := wipeE_get hx
    rw [wipe_out k2]; exact h.1 i x k1 mx
  · obtain ⟨b, t, v, F', he, hv, o⟩ := ht
    obtain ⟨k1, k2⟩ := wipeE_get he
    rw [wipe_out k2] at hv
    exact ⟨b, t, v, F', k1, hv, o⟩
theorem Apar.unwipe {p : Addr} {e0 : Env} {vs : List Nat} (h : Apar K H e (L2.wipe σ vs) p) : Apar K H (backE e0 vs e) σ p := by
  refine ⟨fun j x hx mx hv => ?_, fun j fp ht => h.2 j fp ?_⟩
  · rcases backE_get hx with ⟨k1, k2, d, rfl⟩ | ⟨k1, k2⟩
    · cases mx
    · exact h.1 j x k2 mx (by rw [wipe_out k1]; exact hv)
  · obtain ⟨b, t, v, F', he, hv, o⟩ := ht
    rcases backE_get he with ⟨k1, k2, d, z⟩ | ⟨k1, k2⟩
    · cases z
    · exact ⟨b, t, v, F', k2, by rw [wipe_out k1]; exact hv, o⟩
/-- the cfg with the new list at p held off -/
def Cf.hold (C : Cf) (H : Hp) (p : Addr) : Cf := ⟨fun a => C.M a ∨ a = p, H, C.lam, C.Ml⟩
theorem Rp.hold (R : Rp K C F H e σ) {p : Addr} {o : HO} (hp : H p = some o) (hF : F p = none) (hM : ¬ C.M p) (ap : Apar K H e σ p) : Rp K (C.hold H p) F H e σ := by
  refine ⟨R.len, R.ext, fun a ha => ?_, fun a ha => ⟨rfl, ?_⟩, fun i x hx => ?_, fun i hi => .inl (R.ml i hi), R.ne, R.tn, R.tup⟩
  · rcases ha with ha | rfl
    · exact R.off a ha
    · exact hF
  · rcases ha with ha | rfl
    · show H a ≠ none; rw [(R.frm a ha).1]; exact (R.frm a ha).2
    · show H a ≠ none; rw [hp]; exact fun z => by cases z
  · obtain ⟨v, hv, q⟩ := R.sl i x hx
    refine ⟨v, hv, ?_⟩
    cases x with
    | fz d => exact q
    | own ds =>
      obtain ⟨p', vs, rfl, h1, h2, h3, h4⟩ := q
      refine ⟨p', vs, rfl, h1, h2, h3, fun z => ?_⟩
      rcases z with z | rfl
      · exact h4 z
      · exact ap.1 i _ hx rfl hv
    | lent ds => exact q
    | io ds =>
      obtain ⟨vs, rfl, h1, h2, h3, h4⟩ := q
      refine ⟨vs, rfl, h1, h2, h3, fun z => ?_⟩
      rcases z with z | z
      · exact h4 z
      · exact ap.1 i _ hx rfl (by rw [hv, ← z]; rfl)
    | tr b t =>
      obtain ⟨fp, o, nd, h, hb⟩ := q
      refine ⟨fp, o, nd, fun a ha => ⟨(h a ha).1, fun z => ?_⟩, hb⟩
      rcases z with z | rfl
      · exact (h a ha).2 z
      · exact ap.2 i fp ⟨b, t, v, F, hx, hv, o⟩ ha
/-- .. let go, whatever stands there now -/
theorem Rp.drop (R0 : Rp K C F H e σ) {F2 H2 : Hp} {e2 : Env} {σ2 : L2.St} {p : Addr} {o : HO} (R : Rp K (C.hold H p) F2 H2 e2 σ2) (hM : ¬ C.M p) (ho : ∀ xs, o ≠ .tup xs := by intro xs z; cases z) : Rp K C F2 (upd H2 p o) e2 σ2 ∧ H2 p = H p ∧ F2 p = none ∧ Apar K (upd H2 p o) e2 σ2 p := by
  have pF : F2 p = none := R.off p (.inr rfl)
  have ap : Apart e2 σ2 (.ref p) := fun i x hx mx hv => by
    obtain ⟨v, hv', q⟩ := R.sl i x hx
    rw [hv] at hv'; cases hv'
    cases x with
    | fz d => cases mx
    | own ds => obtain ⟨p', vs, h0, _, _, _, h4⟩ := q; injection h0 with h0; subst h0; exact h4 (.inr rfl)
    | lent ds => cases mx
    | io ds => obtain ⟨vs, h0, _, _, _, h4⟩ := q; injection h0 with h0; rw [← h0] at h4; exact h4 (.inr rfl)
    | tr b t => cases mx
  have nT : ∀ {i fp}, TrAt K H2 e2 σ2 i fp → p ∉ fp := fun h hq => ((R.trFp h).1 p hq).2.1 (.inr rfl)
  have kT : ∀ a, H2 a ≠ none → F2 a = none → ¬ (C.hold H p).M a → (∃ i fp, TrAt K H2 e2 σ2 i fp ∧ a ∈ fp) → upd H2 p o a = H2 a := fun a _ _ hm _ => upd_ne fun z => hm (.inr z)
  refine ⟨⟨R.len, R.ext.mut pF, fun a ha => R.off a (.inl ha), fun a ha => ?_, fun i x hx => ?_, R0.ml, R.ne, fun i fp h => ⟨(R.tn i fp (R.trBack kT h)).1, fun j fp' hj h' => (R.tn i fp (R.trBack kT h)).2 j fp' hj (R.trBack kT h')⟩, R.tup.mut ho⟩, (R.frm p (.inr rfl)).1, pF, ap, fun i fp h => nT (R.trBack kT h)⟩
  · rw [upd_ne (show a ≠ p from fun z => hM (z ▸ ha))]
    have h := R.frm a (.inl ha)
    exact ⟨h.1.trans (R0.frm a ha).1, (R0.frm a ha).2⟩
  · obtain ⟨v, hv, q⟩ := R.sl i x hx
    refine ⟨v, hv, ?_⟩
    cases x with
    | fz d => exact q
    | own ds =>
      obtain ⟨p', vs, rfl, h1, h2, h3, h4⟩ := q
      exact ⟨p', vs, rfl, by rw [upd_ne (show p' ≠ p from fun z => h4 (.inr z))]; exact h1, h2, h3, fun z => h4 (.inl z)⟩
    | lent ds =>
      obtain ⟨vs, rfl, h1, h2, h3⟩ := q
      exact ⟨vs, rfl, by rw [upd_ne (show C.lam i ≠ p from fun z => hM (z ▸ R0.ml i h3))]; exact h1, h2, h3⟩
    | io ds =>
      obtain ⟨vs, rfl, h1, h2, h3, h4⟩ := q
      exact ⟨vs, rfl, by rw [upd_ne (show C.lam i ≠ p from fun z => h4 (.inr z))]; exact h1, h2, h3, fun z => h4 (.inl z)⟩
    | tr b t =>
      obtain ⟨fp, o', nd, h, hb⟩ := q
      exact ⟨fp, o'.ext (.refl F2) fun a ha => upd_ne fun z => (h a ha).2 (.inr z), nd, fun a ha => ⟨(h a ha).1, fun z => (h a ha).2 (.inl z)⟩, hb⟩
theorem lcTurns_len {t : Tg} {c : Sem1 Bool} {elt : Ev} {own : List Nat} : ∀ {ds : List D} {e : Env} {r : List D} {e2 : Env}, lcTurns t c elt own ds e = some (r, e2) → r.length ≤ ds.length
  | [], e, r, e2, h => by cases h; exact Nat.le_refl _
  | d :: ds, e, r, e2, h => by
    unfold lcTurns at h
    split at h
    · cases h
    · split at h
      · split at h
        · obtain ⟨⟨r', e'⟩, h1, h2⟩ := Option.bind_eq_some_iff.mp h
          cases h2
          have := lcTurns_len h1
          simp only [List.length_cons]; omega
        · cases h
      · have := lcTurns_len h
        simp only [List.length_cons]; omega
      · cases h
theorem wipe_idem {vs : List Nat} : wipe (wipe σ vs) vs = wipe σ vs := by
  have : ∀ (ws : List Nat) (σ : L2.St), (∀ v ∈ ws, ∀ x, σ[v]? = some x → x = none) → wipe σ ws = σ := by
    intro ws
    induction ws with
    | nil => intro σ _; rfl
    | cons v ws ih =>
      intro σ h
      unfold wipe
      rw [ih σ fun u hu => h u (List.mem_cons_of_mem _ hu)]
      apply List.ext_getElem?
      intro i
      by_cases hi : v = i
      · subst hi
        cases q : σ[v]? with
        | none => rw [List.getElem?_eq_none]; rw [List.length_set]; exact List.getElem?_eq_none_iff.mp q
        | some x =>
          have := h v List.mem_cons_self x q
          subst this
          rw [List.getElem?_set_self (List.getElem?_eq_some_iff.mp q).1]
      · rw [List.getElem?_set_ne hi]
  refine this vs _ fun v hv x hx => ?_
  cases x with
  | none => rfl
  | some y => exact absurd hv (wipe_some hx).2
theorem rd_lc {w : Wd} {it : Sem1 Src} {t : Tg} {c : Sem1 Bool} {elt : Ev} {own : List Nat} {Q : VK} (h : rdR w (lcS it t c elt own) σ H Q) : tLc (rdI w it) (rdG w.calm t) (rdT w.calm c) (rdR w.calm elt) own σ H Q := by
  obtain ⟨C, F, e, R, P⟩ := h
  refine ⟨C, F, e, R, ?_⟩
  unfold lcS at P
  cases h1 : it e with
  | no => rw [h1] at P; exact P
  | ex x e1 => rw [h1] at P; exact fun F' H' cv od R E q => P F' H' cv od R E q
  | ok s e1 =>
    rw [h1] at P
    intro C' J F' H' R' E back ok
    have P : Post w (RR w.K) C F σ Q (if s.items.length ≤ sizeLine ∧ (∀ i ∈ t.ix, i ∈ own) then match lcTurns t c elt own s.items (wipeE e1 own) with
      | none => .no
      | some (ds, e2) => .ok (.fresh ds) (unlend s.lend (backE e1 own e2)) else .no) := P
    split at P
    · rename_i hc
      obtain ⟨hlen, hown⟩ := hc
      split at P
      · exact P.elim
      · rename_i ds e2 hrun
        obtain ⟨Gd, Y, wk, hGd, hY⟩ := ok.ex
        intro p hp
        obtain ⟨Rn, hM, hF, ap⟩ := R'.grow (o := .lst []) hp
        refine lc_it wk (fun i H1 => ∃ F1 eb vs acc rest e3, Rp w.K C' F1 H1 eb (wipe σ own) ∧ Ext F' F1 ∧ F1 p = none ∧ Apar w.K H1 eb (wipe σ own) p ∧ H1 p = some (.lst vs) ∧ DpAll w.K F1 vs acc ∧ lcTurns t c elt own (s.items.drop i) eb = some (rest, e3) ∧ ds = acc ++ rest ∧ e3 = e2)
          ⟨F', wipeE e1 own, [], [], ds, e2, Rn.wipe own, .refl F', hF, ap.wipe own, upd_same, .nil, hrun, rfl, rfl⟩ (fun i H1 _ ⟨F1, eb, vs, acc, rest, e3, R1, E1, _⟩ => hGd F1 H1 eb _ R1 E1) ?_ ?_
        · rintro i x H1 H2 hi ⟨F1, eb, vs, acc, rest, e3, R1, E1, pF, pa, pH, pd, run, eds, ee⟩ y
          -- the list at p is held off
          have R1' := R1.hold pH pF hM pa
          obtain ⟨d, hd, res⟩ := hY i x H1 H2 F1 E1 R1.ext R1.tup y hi
          obtain ⟨F2, R2, E2, q2⟩ := res.rp R1'
          have hdrop : s.items.drop i = d :: s.items.drop (i + 1) := by
            rw [← List.getElem_cons_drop (h := hi)]
            rw [List.getElem?_eq_getElem hi] at hd
            rw [Option.some.inj hd]
          rw [hdrop] at run
          unfold lcTurns at run
          split at run
          · cases run
          · rename_i ea htr
            refine ⟨C'.hold H1 p, F2, eb, d, ea, R2, q2, htr, fun σ2 R3 hw => ⟨by rw [hw own hown, wipe_idem], C'.hold H1 p, F2, ea, R3, ?_⟩⟩
            have hw' : wipe σ2 own = wipe σ own := by rw [hw own hown, wipe_idem]
            split at run
            · -- kept
              rename_i eb2 hcb
              rw [hcb]
              intro b F3 H3 R4 E3 qb
              cases qb
              refine iteT ?_
              split at run
              · rename_i yd e4 hy
                obtain ⟨⟨rest', e5⟩, hr1, hr2⟩ := Option.bind_eq_some_iff.mp run
                cases hr2
                refine rd_toD ⟨C'.hold H1 p, F3, eb2, R4, ?_⟩
                rw [hy]
                intro v F4 H4 R5 E4 qv
                obtain ⟨R6, k1, k2, k3⟩ := R1.drop (o := .lst (vs ++ [v])) R5 hM
                have E14 : Ext F1 F4 := (E2.trans E3).trans E4
                have hl : acc.length < sizeLine := by
                  have h0 := lcTurns_len hrun
                  have h1 : ds.length = acc.length + (rest'.length + 1) := by rw [eds, List.length_append, List.length_cons]
                  omega
                refine ⟨vs, k1.trans pH, by rw [pd.length]; exact hl, F4, wipeE e4 own, vs ++ [v], acc ++ [yd], rest', e5, ?_, E1.trans E14, k2, hw' ▸ k3.wipe own, upd_same, (pd.ext E14).append (.cons qv .nil), hr1, by rw [eds, List.append_assoc]; rfl, ee⟩
                · have := R6.wipe own
                  rwa [hw'] at this
              · cases run
            · -- left out
              rename_i eb2 hcb
              rw [hcb]
              intro b F3 H3 R4 E3 qb
              cases qb
              refine iteF ?_
              obtain ⟨R6, k1, k2, k3⟩ := R1.drop (o := .lst vs) R4 hM
              have hu : upd H3 p (.lst vs) = H3 := by
                funext a
                by_cases ha : a = p
                · subst ha; rw [upd_same, k1, pH]
                · rw [upd_ne ha]
              rw [hu] at R6 k3
              have E13 : Ext F1 F3 := E2.trans E3
              refine ⟨F3, wipeE eb2 own, vs, acc, rest, e3, ?_, E1.trans E13, k2, hw' ▸ k3.wipe own, k1.trans pH, pd.ext E13, run, eds, ee⟩
              · have := R6.wipe own
                rwa [hw'] at this
            · cases run
        · rintro H1 ⟨F1, eb, vs, acc, rest, e3, R1, E1, pF, pa, pH, pd, run, eds, ee⟩
          rw [List.drop_length] at run
          cases run
          subst ee
          rw [List.append_nil] at eds
          subst eds
          have Ru := R'.unwipe R1 E1
          refine P _ F1 H1 (back.rp _ _ _ _ Ru) (E.trans E1) (back.rv _ _ _ _ ds _ Ru ⟨p, vs, rfl, pH, pd, pF, hM, pa.unwipe⟩)
    · exact P.elim
end VI
set_option Elab.async false
set_option linter.all false
set_option maxRecDepth 100000
set_option maxHeartbeats 4000000
namespace VI
open PySem PySem.Spec PyProof.Rows L2
variable {K : PySem.W.Frag} {C : Cf} {F H : Hp} {e e' : Env} {σ : L2.St}
section
variable {X : Cx} {W : WX} {XR : Hp → Hp → Xc → Value → Option Addr → Prop}
theorem pts_mono {X : Cx} {ifs : List Expr} {t t' : TT} (h : PTs X ifs t) (w : ∀ σ H Q, t' σ H Q → t σ H Q) : PTs X ifs t' := ⟨fun pins s σ H Q I q => h.run pins s σ H Q I (w σ H Q q)⟩
theorem vts_nil {X : Cx} {w : Wd} : PTs X [] (rdT w yesT) := pts_mono pts_nil fun σ H Q q => by
  obtain ⟨C, F, e, R, P⟩ := q
  exact P.ok' R rfl
theorem vts_one {X : Cx} {w : Wd} {c : Expr} {t : Sem1 Bool} (h : PT X c (rdT w t)) : PTs X [c] (rdT w t) := pts_one h
theorem ve_lc {elt tg iter : Expr} {ifs : List Expr} {scope : Scope} {own : List (Str × Nat)} {pos : Pos} {it : Sem1 Src} {t : Tg} {c : Sem1 Bool} {el : Ev} (hc : X.calm = true) (hN : X.N.Nodup) (hi : PI X tg iter (rdI (wd X W XR) it)) (ok : BlkOk X.N X.env.scope scope own)
    (hg : ∀ (s : Shared) (H : Hp) (C : Addr) (cl : List (Str × Addr)) (fp : List Addr), PG (X.blk s H scope (compEnvC scope cl C X.env) fp) tg (rdG (wd X (fun _ _ _ _ => False) XR) t)) (ht : ∀ (s : Shared) (H : Hp) (C : Addr) (cl : List (Str × Addr)) (fp : List Addr), PTs (X.blk s H scope (compEnvC scope cl C X.env) fp) ifs (rdT (wd X (fun _ _ _ _ => False) XR) c))
    (he : ∀ (s : Shared) (H : Hp) (C : Addr) (cl : List (Str × Addr)) (fp : List Addr), PE (X.blk s H scope (compEnvC scope cl C X.env) fp) elt (rdR (wd X (fun _ _ _ _ => False) XR) el)) (hs : ∀ x, foldedSetIterable iter X.env x = pure x := by intro _; rfl) :
    PE X (.ListComp elt [⟨tg, iter, ifs, 0⟩] scope pos) (rdR (wd X W XR) (lcS it t c el (own.map (·.2)))) := pe_mono (pe_lc hc hN hi ok hg ht he hs) fun _ _ _ h => rd_lc h
end
def mvR : Rv → Env → Rs Rv
  | .bor i, e => (frz (.bor i) e).bind fun d e1 => .ok (.fz d) e1
  | r, e => .ok r e
def mvs : List Ev → Sem1 (List Rv)
  | [] => fun e => .ok [] e
  | a :: as => fun e => ((a e).bind mvR).bind fun x e1 => (mvs as e1).bind fun xs e2 => .ok (x :: xs) e2
/-- .. each lies still or is a new list of its own -/
def RMs (K : PySem.W.Frag) : Cf → Hp → Hp → Env → L2.St → List Rv → List V → Prop
  | _, _, _, _, _, [], [] => True
  | C, F, H, e, σ, r :: rs, v :: vs => RvR K C F H e σ r v ∧ (∀ i, r ≠ .bor i) ∧ (∀ ds, r = .fresh ds → ∀ r' v', (r', v') ∈ rs.zip vs → r'.still = false → v' ≠ v) ∧ RMs K C F H e σ rs vs
  | _, _, _, _, _, _, _ => False
abbrev rdMs (w : Wd) (a : Sem1 (List Rv)) : TA := Rd w (RMs w.K) a
theorem RMs.apart (R : Rp K C F H e σ) {p : Addr} {H0 : Hp} (hM : ¬ C.M p) (R2 : Rp K (C.hold H0 p) F H e σ) : ∀ {rs : List Rv} {vs : List V}, RMs K (C.hold H0 p) F H e σ rs vs → RMs K C F H e σ rs vs ∧ ∀ r' v', (r', v') ∈ rs.zip vs → r'.still = false → v' ≠ .ref p
  | [], [], _ => ⟨trivial, fun _ _ h => by simp at h⟩
  | r :: rs, v :: vs, h => by
    obtain ⟨h1, h2, h3, h4⟩ := h
    obtain ⟨i1, i2⟩ := RMs.apart R hM R2 h4
    refine ⟨⟨?_, h2, h3, i1⟩, fun r' v' hm hs => ?_⟩
    · cases r with
      | fz d => exact h1
      | fresh ds =>
        obtain ⟨q, vs, rfl, k1, k2, k3, k4, k5⟩ := h1
        exact ⟨q, vs, rfl, k1, k2, k3, fun z => k4 (.inl z), k5⟩
      | bor i => exact absurd rfl (h2 i)
    · rw [List.zip_cons_cons, List.mem_cons] at hm
      rcases hm with hm | hm
      · cases hm
        cases r with
        | fz d => cases hs
        | fresh ds =>
          obtain ⟨q, vs, rfl, k1, k2, k3, k4, k5⟩ := h1
          exact fun z => by injection z with z; exact k4 (.inr z)
        | bor i => exact absurd rfl (h2 i)
      · exact i2 r' v' hm hs
  | [], _ :: _, h => h.elim
  | _ :: _, [], h => h.elim
theorem rd_mvs_nil {w : Wd} {Q : List V → Hp → Prop} (h : rdMs w (mvs []) σ H Q) : tNil σ H Q := by
  obtain ⟨C, F, e, R, P⟩ := h
  exact P.ok' R trivial
theorem Post.mvR {w : Wd} {r : Rv} {v : V} (R : Rp w.K C F H e σ) (q : RvR w.K C F H e σ r v) {α β : Type} {RA : Cf → Hp → Hp → Env → L2.St → α → β → Prop} {Q : β → Hp → Prop} {f : Rv → Env → Rs α}
    (P : Post w RA C F σ Q ((mvR r e).bind f)) : ∃ F' e1 x, Rp w.K C F' H e1 σ ∧ Ext F F' ∧ RvR w.K C F' H e1 σ x v ∧ (∀ i, x ≠ .bor i) ∧ Post w RA C F' σ Q (f x e1) := by
  cases r with
  | fz d => exact ⟨F, e, _, R, .refl F, q, fun _ z => (by cases z), P⟩
  | fresh ds => exact ⟨F, e, _, R, .refl F, q, fun _ z => (by cases z), P⟩
  | bor i =>
    have h' : σ[i]? = some (some v) := q
    unfold VI.mvR VI.frz at P
    simp only at P
    split at P
    · rename_i d hd
      obtain ⟨u, hu, z⟩ := R.sl _ _ hd
      rw [h'] at hu; cases hu
      exact ⟨F, e, .fz d, R, .refl F, z, fun _ z => (by cases z), P⟩
    · rename_i ds hd
      obtain ⟨F', u, R', E, hu, z⟩ := R.rest hd
      rw [h'] at hu; cases hu
      exact ⟨F', _, .fz (.list ds), R', E, z, fun _ z => (by cases z), Post.mono E P⟩
    · exact P.elim
theorem rd_mvs_cons {w : Wd} {a : Ev} {as : List Ev} {Q : List V → Hp → Prop} (h : rdMs w (mvs (a :: as)) σ H Q) : tCons (rdR w a) (rdMs w (mvs as)) σ H Q := by
  obtain ⟨C, F, e, R, P⟩ := h
  have P : Post w (RMs w.K) C F σ Q ((a e).bind fun r e0 => (mvR r e0).bind fun x e1 => (mvs as e1).bind fun xs e2 => .ok (x :: xs) e2) := by rw [← rs_assoc]; exact P
  refine bindP R P fun F1 H1 e1 r v h1 R1 E1 q1 P1 => ?_
  obtain ⟨F2, e2, x, R2, E2, q2, nb, P2⟩ := P1.mvR R1 q1
  cases x with
  | bor i => exact absurd rfl (nb i)
  | fz d =>
    refine bindP R2 P2 fun F3 H3 e3 xs vs h3 R3 E3 q3 P3 => ?_
    exact P3.ok' R3 ⟨show RvR _ _ _ _ _ _ (.fz d) v from Dp.ext E3 q2, nb, (fun ds z => by cases z), q3⟩
  | fresh ds =>
    obtain ⟨p, ws, rfl, hp, hd, hF, hM, ap⟩ := q2
    -- the new list is held off while the rest is reckoned
    have Rh := R2.hold hp hF hM ap
    refine ⟨C.hold H1 p, F2, e2, Rh, ?_⟩
    cases h3 : mvs as e2 with
    | no => rw [h3] at P2; exact P2
    | ex x e3 =>
      rw [h3] at P2
      intro F' H' cv od R' E' q
      obtain ⟨R6, k1, k2, k3⟩ := R2.drop (o := .lst ws) R' hM
      have hu : upd H' p (.lst ws) = H' := by
        funext a
        by_cases ha : a = p
        · subst ha; rw [upd_same, k1, hp]
        · rw [upd_ne ha]
      rw [hu] at R6
      exact P2 F' H' cv od R6 E' q
    | ok xs e3 =>
      rw [h3] at P2
      intro vs F' H' R' E' q
      obtain ⟨R6, k1, k2, k3⟩ := R2.drop (o := .lst ws) R' hM
      have hu : upd H' p (.lst ws) = H' := by
        funext a
        by_cases ha : a = p
        · subst ha; rw [upd_same, k1, hp]
        · rw [upd_ne ha]
      rw [hu] at R6 k3
      obtain ⟨q', na⟩ := RMs.apart R6 hM R' q
      exact P2 _ F' H' R6 E' ⟨⟨p, ws, rfl, k1.trans hp, hd.ext E', k2, hM, k3⟩, nb, fun _ _ => na, q'⟩
section
variable {w : Wd} {X : Cx} {ex : Expr} {es : List Expr} {a : Ev} {as : List Ev} {pos : Pos}
theorem vm_nil : PA X [] (rdMs w (mvs [])) := pa_mono pa_nil fun _ _ _ h => rd_mvs_nil h
theorem vm_cons (ha : PE X ex (rdR w a)) (hr : PA X es (rdMs w (mvs as))) (hs : starEach (ex :: es) X.env = (false, eval ex X.env) :: starEach es X.env := by rfl) : PA X (ex :: es) (rdMs w (mvs (a :: as))) :=
  pa_mono (pa_cons ha hr hs) fun _ _ _ h => rd_mvs_cons h
end
/-- stores one after another -/
def stores : List Nat → List Rv → Env → Rs Fl
  | [], [], e => .ok .nx e
  | i :: is, r :: rs, e => (store i r e).bind fun _ e1 => stores is rs e1
  | _, _, _ => .no
def parS (is : List Nat) (as : List Ev) : St1 := fun e => (mvs as e).bind fun rs e1 => stores is rs e1
def setAll : List Nat → List V → L2.St → L2.St
  | i :: is, v :: vs, σ => setAll is vs (σ.set i (some v))
  | _, _, σ => σ
theorem store_fz {w : Wd} {D : Ends} {i : Nat} {r : Rv} {v : V} {f : Fl → Env → Rs Fl} (R : Rp w.K C F H e σ) (q : RvR w.K C F H e σ r v) (nb : ∀ i, r ≠ .bor i) (P : PostS w C F D ((store i r e).bind f)) :
    ∃ e1, freeAt e i = true ∧ Rp w.K C F H e1 (σ.set i (some v)) ∧ PostS w C F D (f .nx e1) ∧ ∀ r' v', RvR w.K C F H e σ r' v' → (∀ j, r' ≠ .bor j) → (r'.still = false → r.still = false → v' ≠ v) → RvR w.K C F H e1 (σ.set i (some v)) r' v' := by
  cases r with
  | bor j => exact absurd rfl (nb j)
  | fz d =>
    have P : PostS w C F D ((if freeAt e i then .ok .nx (e.set i (some (.fz d))) else .no : Rs Fl).bind f) := P
    split at P
    · rename_i hf
      refine ⟨_, hf, R.put hf q, P, fun r' v' q' nb' _ => ?_⟩
      cases r' with
      | fz d' => exact q'
      | bor j => exact absurd rfl (nb' j)
      | fresh ds =>
        obtain ⟨p, ws, rfl, k1, k2, k3, k4, k5⟩ := q'
        refine ⟨p, ws, rfl, k1, k2, k3, k4, fun j y hy my hs => ?_, k5.2.set fun b t z => by cases z⟩
        rcases getset hy with ⟨rfl, z⟩ | ⟨hj, hy⟩
        · cases z; cases my
        · rw [List.getElem?_set_ne hj] at hs; exact k5.1 j y hy my hs
    · exact P.elim
  | fresh ds0 =>
    obtain ⟨p0, ws0, rfl, m1, m2, m3, m4, m5⟩ := q
    have P : PostS w C F D ((if freeAt e i then .ok .nx (e.set i (some (.own ds0))) else .no : Rs Fl).bind f) := P
    split at P
    · rename_i hf
      refine ⟨_, hf, R.putOwn hf m1 m2 m3 m4 m5, P, fun r' v' q' nb' hne => ?_⟩
      cases r' with
      | fz d' => exact q'
      | bor j => exact absurd rfl (nb' j)
      | fresh ds =>
        obtain ⟨p, ws, rfl, k1, k2, k3, k4, k5⟩ := q'
        refine ⟨p, ws, rfl, k1, k2, k3, k4, fun j y hy my hs => ?_, k5.2.set fun b t z => by cases z⟩
        rcases getset hy with ⟨rfl, z⟩ | ⟨hj, hy⟩
        · have : i < σ.length := by
            rw [← R.len]
            unfold freeAt at hf
            split at hf <;> first | (cases hf; done) | skip
            rename_i hs; exact (List.getElem?_eq_some_iff.mp hs).1
          rw [List.getElem?_set_self this] at hs
          cases hs
          exact hne rfl rfl rfl
        · rw [List.getElem?_set_ne hj] at hs; exact k5.1 j y hy my hs
    · exact P.elim
theorem PostS.stores {w : Wd} {D : Ends} : ∀ {is : List Nat} {rs : List Rv} {vs : List V} {e : Env} {σ : L2.St}, Rp w.K C F H e σ → RMs w.K C F H e σ rs vs → PostS w C F D (stores is rs e) → vs.length = is.length ∧ D.nx (setAll is vs σ) H
  | [], [], [], e, σ, R, _, P => ⟨rfl, P.nx' R⟩
  | i :: is, r :: rs, v :: vs, e, σ, R, q, P => by
    obtain ⟨q1, q2, q3, q4⟩ := q
    obtain ⟨e1, hf, R1, P1, tr⟩ := store_fz R q1 q2 P
    have q4' : RMs w.K C F H e1 (σ.set i (some v)) rs vs := by
      clear P P1
      induction rs generalizing vs with
      | nil => cases vs <;> first | trivial | exact q4.elim
      | cons r' rs ih =>
        cases vs with
        | nil => exact q4.elim
        | cons v' vs =>
          obtain ⟨z1, z2, z3, z4⟩ := q4
          refine ⟨tr r' v' z1 z2 fun h1 h2 => ?_, z2, z3, ih vs (fun ds hr r'' v'' hm => q3 ds hr r'' v'' (by rw [List.zip_cons_cons]; exact List.mem_cons_of_mem _ hm)) z4⟩
          cases r with
          | fz d => cases h2
          | bor j => exact absurd rfl (q2 j)
          | fresh ds => exact q3 ds rfl r' v' (by rw [List.zip_cons_cons]; exact List.mem_cons_self) h1
    obtain ⟨l, k⟩ := PostS.stores R1 q4' P1
    exact ⟨by rw [List.length_cons, List.length_cons, l], k⟩
  | [], _ :: _, [], _, _, _, q, _ => q.elim
  | [], [], _ :: _, _, _, _, q, _ => q.elim
  | [], _ :: _, _ :: _, _, _, _, _, P => P.elim
  | _ :: _, [], _, _, _, _, _, P => P.elim
  | _ :: _, _ :: _, [], _, _, _, q, _ => q.elim
theorem rd_par {w : Wd} {D : Ends} {is : List Nat} {as : List Ev} (h : rdS w (parS is as) D σ H) : rdMs w (mvs as) σ H fun vs H1 => vs.length = is.length ∧ D.nx (setAll is vs σ) H1 := by
  obtain ⟨C, F, e, R, P⟩ := h
  exact bindS R P fun F1 H1 e1 rs vs h1 R1 E1 q1 P1 => PostS.stores R1 q1 P1
section
variable {X : Cx} {w : Wd} {i j l : Nat} {x y z : Str} {a b c : Expr} {as : List Ev} {px py pz pt pos : Pos}
theorem vs_par3 {kt k2 : Nat} {pt2 : Pos} (hc : X.calm = true) (hN : X.N.Nodup) (hi : X.N[i]? = some x) (hj : X.N[j]? = some y) (hl : X.N[l]? = some z) (hij : i ≠ j) (hil : i ≠ l) (hjl : j ≠ l)
    (hx : X.env.scope.names.lookup x = some .local) (hy : X.env.scope.names.lookup y = some .local) (hz : X.env.scope.names.lookup z = some .local) (ha : PA X [a, b, c] (rdMs w (mvs as)))
    (hw : swappedStores [.Tuple [.Name x px, .Name y py, .Name z pz] kt pt] (.Tuple [a, b, c] k2 pt2) X.env = pure (some [x, y, z]))
    (hs : swapsWithSole [.Tuple [.Name x px, .Name y py, .Name z pz] kt pt] (.Tuple [a, b, c] k2 pt2) pos.line X.env = pure false := by rfl) :
    PS X (.Assign [.Tuple [.Name x px, .Name y py, .Name z pz] kt pt] (.Tuple [a, b, c] k2 pt2) pos) (rdS w (parS [i, j, l] as)) := ps_mono (ps_par3 hc hN hi hj hl hij hil hjl hx hy hz ha hw hs) fun D σ H h => by
  obtain ⟨C, F, e, R, P⟩ := rd_par h
  refine ⟨C, F, e, R, ?_⟩
  cases h1 : mvs as e with
  | no => rw [h1] at P; exact P
  | ex x e1 => rw [h1] at P; exact P
  | ok rs e1 =>
    rw [h1] at P
    intro vs F' H' R' E q
    obtain ⟨hl, hn⟩ := P vs F' H' R' E q
    match vs, hl, hn with
    | [v, u, t], _, hn => exact ⟨v, u, t, rfl, hn⟩
end
end VI
set_option Elab.async false
set_option linter.all false
set_option maxRecDepth 100000
set_option maxHeartbeats 4000000
namespace VI
open PySem PySem.Spec PyProof.Rows L2
variable {K : PySem.W.Frag} {C : Cf} {F H : Hp} {e e' : Env} {σ : L2.St}
/-- the list at a name that may be changed -/
def mutAt (e : Env) (i : Nat) : Option (List D) := match e[i]? with
  | some (some (.own ds)) => some ds
  | some (some (.io ds)) => some ds
  | _ => none
def putAt (e : Env) (i : Nat) (ds : List D) : Env := match e[i]? with
  | some (some (.own _)) => e.set i (some (.own ds))
  | some (some (.io _)) => e.set i (some (.io ds))
  | _ => e
theorem Rp.mutAt (R : Rp K C F H e σ) {i : Nat} {ds : List D} (h : VI.mutAt e i = some ds) : ∃ p vs, σ[i]? = some (some (.ref p)) ∧ H p = some (.lst vs) ∧ DpAll K F vs ds ∧ F p = none ∧
    (∀ {F' H' : Hp} {ys : List V} {ds' : List D}, Rp K C F' H' e σ → DpAll K F' ys ds' → Rp K C F' (upd H' p (.lst ys)) (putAt e i ds') σ) ∧
    (∀ {F' H' : Hp} {e2 : Env} {ds2 : List D}, Rp K C F' H' e2 σ → VI.mutAt e2 i = some ds2 → ∃ ws, H' p = some (.lst ws) ∧ DpAll K F' ws ds2 ∧ F' p = none) := by
  unfold VI.mutAt at h
  have again : ∀ {p : Addr} {F' H' : Hp} {e2 : Env} {ds2 : List D}, σ[i]? = some (some (.ref p)) → Rp K C F' H' e2 σ → VI.mutAt e2 i = some ds2 → ∃ ws, H' p = some (.lst ws) ∧ DpAll K F' ws ds2 ∧ F' p = none := fun {p F' H' e2 ds2} hv R' h' => by
    unfold VI.mutAt at h'
    split at h'
    · rename_i ds hd
      cases h'
      obtain ⟨v, hv', p', vs, rfl, h1, h2, h3, h4⟩ := R'.sl _ _ hd
      rw [hv] at hv'; cases hv'
      exact ⟨vs, h1, h2, h3⟩
    · rename_i ds hd
      cases h'
      obtain ⟨v, hv', vs, rfl, h1, h2, h3, h4⟩ := R'.sl _ _ hd
      rw [hv] at hv'; cases hv'
      exact ⟨vs, h1, h2, h3⟩
    · cases h'
  -- the store
  have st : ∀ {p : Addr} {sv : List D → Sv}, (∀ ds, (sv ds).mu = true) → e[i]? = some (some (sv ds)) → σ[i]? = some (some (.ref p)) → ¬ C.M p → (∀ {F' H' : Hp}, Rp K C F' H' e σ → F' p = none) →
      (∀ {F' H' : Hp} {ys : List V} {ds' : List D}, H' p = some (.lst ys) → DpAll K F' ys ds' → F' p = none → SvR K C F' H' i (sv ds') (.ref p)) →
      ∀ {F' H' : Hp} {ys : List V} {ds' : List D}, Rp K C F' H' e σ → DpAll K F' ys ds' → Rp K C F' (upd H' p (.lst ys)) (e.set i (some (sv ds'))) σ := fun {p sv} hmu hd hv hM hF hsv {F' H' ys ds'} R' hy => by
    have pF := hF R'
    have ne : ∀ j y, j ≠ i → e[j]? = some (some y) → y.mu = true → σ[j]? ≠ some (some (.ref p)) := fun j y hj hy my z => R'.ne i j _ _ (Ne.symm hj) hd hy (hmu _) my (by rw [hv, z])
    have lowT : ∀ {j : Nat} {y : Bool × OT}, (e.set i (some (sv ds')))[j]? = some (some (Sv.tr y.1 y.2)) → e[j]? = some (some (Sv.tr y.1 y.2)) := fun {j y} h => by
      rcases getset h with ⟨rfl, h'⟩ | ⟨hj, h⟩
      · have := hmu ds'; rw [Option.some.inj h'] at this; cases this
      · exact h
    have kT : ∀ a, H' a ≠ none → F' a = none → ¬ C.M a → (∃ i fp, TrAt K H' e σ i fp ∧ a ∈ fp) → upd H' p (.lst ys) a = H' a := fun a _ _ _ ⟨j, fp, ht, ha⟩ => upd_ne fun z => (R'.tn j fp ht).1 a ha i _ hd (hmu _) (by rw [hv, z])
    have t1 := tn_sub R'.tn (e2 := e.set i (some (sv ds'))) (σ2 := σ) (fun j y hy => lowT hy) fun j y hy my => by
      rcases getset hy with ⟨rfl, hy'⟩ | ⟨hj, hy⟩
      · exact ⟨_, hd, hmu _, rfl⟩
      · exact ⟨_, hy, my, rfl⟩
    have upT : ∀ {j fp}, TrAt K (upd H' p (.lst ys)) (e.set i (some (sv ds'))) σ j fp → TrAt K H' (e.set i (some (sv ds'))) σ j fp := fun {j fp} h => by
      obtain ⟨b, t, v, F2, he, hv2, o⟩ := h
      have T := R'.trBack kT (i := j) (fp := fp) ⟨b, t, v, F2, lowT (y := (b, t)) he, hv2, o⟩
      obtain ⟨b', t', v', F3, he', hv3, o'⟩ := T
      rw [lowT (y := (b, t)) he] at he'; cases he'
      rw [hv2] at hv3; cases hv3
      exact ⟨b, t, v, F3, he, hv2, o'⟩
    refine ⟨by rw [List.length_set]; exact R'.len, R'.ext.mut pF, R'.off, fun a ha => ?_, fun j x hx => ?_, R'.ml, fun j k x y hjk hx hy mx my => ?_, fun j fp h => ⟨(t1 j fp (upT h)).1, fun k fp' hk h' => (t1 j fp (upT h)).2 k fp' hk (upT h')⟩, R'.tup.mut fun xs z => by cases z⟩
    · rw [upd_ne (show a ≠ p from fun z => hM (z ▸ ha))]; exact R'.frm a ha
    · rcases getset hx with ⟨rfl, hx'⟩ | ⟨hj, hx⟩
      · cases hx'; exact ⟨_, hv, hsv upd_same hy pF⟩
      · obtain ⟨u, hu, q⟩ := R'.sl j x hx
        refine ⟨u, hu, ?_⟩
        cases x with
        | fz d => exact q
        | own ds' =>
          obtain ⟨p', vs', rfl, h1, h2, h3, h4⟩ := q
          exact ⟨p', vs', rfl, by rw [upd_ne (show p' ≠ p from fun z => ne j _ (Ne.symm hj) hx rfl (by rw [hu, z]))]; exact h1, h2, h3, h4⟩
        | lent ds' =>
          obtain ⟨vs', rfl, h1, h2, h3⟩ := q
          exact ⟨vs', rfl, by rw [upd_ne (show C.lam j ≠ p from fun z => hM (z ▸ R'.ml j h3))]; exact h1, h2, h3⟩
        | io ds' =>
          obtain ⟨vs', rfl, h1, h2, h3, h4⟩ := q
          exact ⟨vs', rfl, by rw [upd_ne (show C.lam j ≠ p from fun z => ne j _ (Ne.symm hj) hx rfl (by rw [hu, z]))]; exact h1, h2, h3, h4⟩
        | tr b t =>
          obtain ⟨fp, o, nd, h, hb⟩ := q
          exact ⟨fp, o.ext (.refl F') fun a ha => kT a (o.some a ha) (h a ha).1 (h a ha).2 ⟨j, fp, ⟨b, t, u, F', hx, hu, o⟩, ha⟩, nd, h, hb⟩
    · rcases getset hx with ⟨rfl, hx'⟩ | ⟨hj, hx⟩
      · rcases getset hy with ⟨rfl, hy'⟩ | ⟨hk, hy⟩
        · exact absurd rfl hjk
        · rw [hv]; exact fun z => ne k y (Ne.symm hk) hy my z.symm
      · rcases getset hy with ⟨rfl, hy'⟩ | ⟨hk, hy⟩
        · rw [hv]; exact fun z => ne j x (Ne.symm hj) hx mx z
        · exact R'.ne j k x y hjk hx hy mx my
  split at h
  · rename_i ds' hd
    cases h
    obtain ⟨v, hv, p, vs, rfl, h1, h2, h3, h4⟩ := R.sl _ _ hd
    refine ⟨p, vs, hv, h1, h2, h3, fun {F' H' ys ds'} R' hy => ?_, fun R' h' => again hv R' h'⟩
    have : putAt e i ds' = e.set i (some (.own ds')) := by unfold putAt; rw [hd]
    rw [this]
    exact st (sv := .own) (fun _ => rfl) hd hv h4 (fun R' => (again hv R' (by unfold VI.mutAt; rw [hd])).elim fun _ z => z.2.2) (fun a b c => ⟨p, _, rfl, a, b, c, h4⟩) R' hy
  · rename_i ds' hd
    cases h
    obtain ⟨v, hv, vs, rfl, h1, h2, h3, h4⟩ := R.sl _ _ hd
    refine ⟨_, vs, hv, h1, h2, h3, fun {F' H' ys ds'} R' hy => ?_, fun R' h' => again hv R' h'⟩
    have : putAt e i ds' = e.set i (some (.io ds')) := by unfold putAt; rw [hd]
    rw [this]
    exact st (sv := .io) (fun _ => rfl) hd hv h4 (fun R' => (again hv R' (by unfold VI.mutAt; rw [hd])).elim fun _ z => z.2.2) (fun a b c => ⟨_, rfl, a, b, c, h4⟩) R' hy
  · cases h
abbrev FM := List D → List D → Option (D × List D)
def MutS (K : PySem.W.Frag) (f : FM) (r : V → List V → Hp → VK → Prop) : Prop := ∀ F H p xs vs dx ds z dx', Ext F H → H p = some (.lst xs) → F p = none → DpAll K F xs dx → DpAll K F vs ds → f dx ds = some (z, dx') → ∀ Q : VK, (∀ v ys, Dp K F v z → DpAll K F ys dx' → Q v (upd H p (.lst ys))) → r (.ref p) vs H Q
/-- name.method(args), the name's list is changed -/
def eM (f : FM) (i : Nat) (as : Sem1 (List D)) : Ev := fun e => match mutAt e i with
  | none => .no
  | some _ => (as e).bind fun ds e1 => match mutAt e1 i with
    | none => .no
    | some xs => match f xs ds with
      | none => .no
      | some (z, xs') => .ok (.fz z) (putAt e1 i xs')
theorem rd_mut {w : Wd} {f : FM} {r : V → List V → Hp → VK → Prop} {i : Nat} {as : Sem1 (List D)} (hs : MutS w.K f r) {Q : VK} (h : rdR w (eM f i as) σ H Q) : tBM w.K "list" r (rdR w (eV i)) (rdDs w as) σ H Q := by
  obtain ⟨C, F, e, R, P⟩ := h
  unfold eM at P
  cases hm : mutAt e i with
  | none => rw [hm] at P; exact P.elim
  | some xs0 =>
    rw [hm] at P
    have hev : eV i e = .ok (.bor i) e := by
      unfold mutAt at hm
      unfold eV
      split at hm <;> first | (cases hm; done) | skip
      all_goals (rename_i hq; rw [hq])
    refine ⟨C, F, e, R, ?_⟩
    rw [hev]
    intro v F1 H1 R1 E1 q1
    have q1 : σ[i]? = some (some v) := q1
    obtain ⟨p, ws, hv, hp, _⟩ := R1.mutAt hm
    rw [q1] at hv; cases hv
    refine ⟨.inl ⟨rfl, ws, .of hp⟩, ?_⟩
    have P := Post.mono E1 P
    refine bindP R1 P fun F2 H2 e2 ds vs h2 R2 E2 q2 P2 => ?_
    cases hm2 : mutAt e2 i with
    | none => rw [hm2] at P2; exact P2.elim
    | some xs =>
      rw [hm2] at P2
      simp only at P2
      cases hf : f xs ds with
      | none => rw [hf] at P2; exact P2.elim
      | some zz =>
        obtain ⟨z, xs'⟩ := zz
        rw [hf] at P2
        obtain ⟨p', ws', hv', hp', hd', hF', put, _⟩ := R2.mutAt hm2
        rw [q1] at hv'; cases hv'
        exact hs F2 H2 _ ws' vs xs ds z xs' R2.ext hp' hF' hd' q2 hf Q fun v ys qv qy => P2 v F2 _ (put R2 qy) (.refl F2) qv
/-- name[ix] = val -/
def setS (i : Nat) (ix val : Ev) : St1 := fun e => (toD val e).bind fun d e1 => match mutAt e1 i with
  | none => .no
  | some _ => (opd ix e1).bind fun k e2 => match k, mutAt e2 i with
    | .fz (.int k), some xs => match ixN xs.length k with
      | none => .no
      | some j => .ok .nx (putAt e2 i (xs.set j d))
    | _, _ => .no
/-- f(name, args): the name's list may be changed -/
def eI (fn : List D → List D → Option (Ret × List D)) (i : Nat) (as : Sem1 (List D)) : Ev := fun e => match mutAt e i with
  | none => .no
  | some _ => (as e).bind fun ds e1 => match mutAt e1 i with
    | none => .no
    | some b => match fn b ds with
      | none => .no
      | some (.ok r, b') => .ok r (putAt e1 i b')
      | some (.ex x, b') => .ex x (putAt e1 i b')
section
variable {X : Cx} {W : WX} {XR : Hp → Hp → Xc → Value → Option Addr → Prop} {a b o : Expr} {es : List Expr} {ix val : Ev} {as : List Ev} {i : Nat} {p pos apos cpos pos' : Pos} {x y name : Str}
theorem ve_mut {w : Wd} {f : FM} {r : V → List V → Hp → VK → Prop} {id : String} (slot : Slot "list" name id) (hty : typeOf (.builtin id) = pure (.type "method_descriptor")) (hm : MtR X id r) (hs : MutS X.K f r) (hw : w.K = X.K) (ho : PE X o (rdR w (eV i))) (ha : PA X (a :: es) (rdDs w (toDs as)))
    (hbase : attributeBase o name X.env (eval o X.env) = eval o X.env := by rfl)
    (hfew : ((backTo cpos (starEach (a :: es) X.env)).all (fun x => !x.1) && (backToKw cpos (keywordEach [] X.env)).all (fun x => x.1.isSome)
      && decide ((a :: es).length + ([] : List Keyword).length + (if ([] : List Keyword).isEmpty then 0 else 1) < 30)) = true := by rfl)
    (hline : (apos.endLine == cpos.line) = true := by rfl) (h1 : starEach (a :: es) X.env = (false, eval a X.env) :: starEach es X.env := by rfl) (hplain : (backTo cpos (starEach es X.env)).any (·.1) = false := by rfl) :
    PE X (.Call (.Attribute o name apos) (a :: es) [] cpos) (rdR w (eM f i (toDs as))) := pe_mono (pe_bm PySem.F.plainAttrs_list slot hty hm ho ha hbase hfew hline h1 hplain) fun _ _ _ h => by
  rw [← hw] at hs ⊢; exact rd_mut hs h
end
def initE (n : Nat) (ds : List D) : Env := ds.map (fun d => some (.fz d)) ++ List.replicate (n - ds.length) none
def initI (n : Nat) (b : List D) (ds : List D) : Env := some (.io b) :: (ds.map (fun d => some (.fz d)) ++ List.replicate (n - (ds.length + 1)) none)
/-- what a def gives, by its body over n names -/
def fnF (body : St1) (n : Nat) (ds : List D) : Option Ret := match body (initE n ds) with
  | .ok (.ret r) _ => some (.ok r)
  | .ok .nx _ => some (.ok (.fz .none))
  | .ex x _ => some (.ex x)
  | _ => none
def ioAt (e : Env) : Option (List D) := match (e[0]? : Option (Option Sv)) with
  | some (some (.io b)) => some b
  | _ => none
theorem initE_get {n : Nat} {ds : List D} {i : Nat} {x : Sv} (h : (initE n ds)[i]? = some (some x)) : ∃ d, x = .fz d ∧ ds[i]? = some d := by
  unfold initE at h
  by_cases hi : i < ds.length
  · rw [List.getElem?_append_left (by rw [List.length_map]; exact hi), List.getElem?_map, List.getElem?_eq_getElem hi] at h
    cases h
    exact ⟨_, rfl, List.getElem?_eq_getElem hi⟩
  · rw [List.getElem?_append_right (by rw [List.length_map]; omega), List.getElem?_replicate] at h
    split at h <;> cases h
theorem start_get {N : List Str} {vs : List V} {i : Nat} {v : V} (h : vs[i]? = some v) : (L2.start N vs)[i]? = some (some v) := by
  unfold L2.start
  have hi := (List.getElem?_eq_some_iff.mp h).1
  rw [List.getElem?_append_left (by rw [List.length_map]; exact hi), List.getElem?_map, h]
  rfl
def cfF (F H : Hp) : Cf := ⟨fun a => H a ≠ none ∧ F a = none, H, fun _ => 0, fun _ => False⟩
theorem rp_init {N : List Str} {vs : List V} {ds : List D} (E : Ext F H) (T : TupIn F H) (hd : DpAll K F vs ds) : Rp K (cfF F H) F H (initE N.length ds) (L2.start N vs) := by
  refine ⟨?_, E, fun a ha => ha.2, fun a ha => ⟨rfl, ha.1⟩, fun i x hx => ?_, fun i h => h.elim, fun i j x y hij hx hy mx my => ?_, fun i fp ⟨b, t, v, F', he, _⟩ => by (obtain ⟨d, z, _⟩ := initE_get he; cases z), T⟩
  · unfold initE L2.start
    rw [List.length_append, List.length_append, List.length_map, List.length_map, List.length_replicate, List.length_replicate, hd.length]
  · obtain ⟨d, rfl, hx'⟩ := initE_get hx
    obtain ⟨v, hv, q⟩ := hd.get hx'
    exact ⟨v, start_get hv, q⟩
  · obtain ⟨d, rfl, hx⟩ := initE_get hx
    cases mx
section
variable {P : Program} {w : World} {mg : Str → Option Value} {base : Heap} {XR : Hp → Hp → Xc → Value → Option Addr → Prop} {x qual : Str} {st : Stmt} {f : Addr} {fd : FuncData} {N ps : List Str} {k : Nat} {body : St1}
/-- THE RULE for a def that changes nothing that stood -/
theorem def_ok (FF : Fun K x qual st f fd) (S : FnScope N ps (defScope st))
    (hbody : ∀ (cdv : Value) (A : Around) (outer : List PySem.Env) (s : Shared) (H : Hp) (E : XK), Room k (A.deeper (envOfC qual (defScope st) s.heap.objs.size f cdv)) → A.guards = some [] →
      PSs (cxOf (L2.CX P w) P w K mg base N qual (defScope st) f cdv A outer s H E) (defBody st) (rdS ⟨K, fun c d _ H => E c d H, XR⟩ body)) : FnG P w K mg base (k + 1) f fd ps (spF K XR ps.length (fnF body N.length)) := by
  refine Fun.okG FF S (fun vs H Q E h => h.1) (fun cdv A outer s H vs Q E hr hgd h => ⟨_, hbody cdv A outer s H E hr hgd, ?_⟩)
  obtain ⟨hl, F, ds, EX, TX, hd, m⟩ := h
  refine ⟨cfF F H, F, initE N.length ds, rp_init EX TX hd, ?_⟩
  have aft : ∀ {F' H' : Hp} {e' : Env} {σ' : L2.St}, Rp K (cfF F H) F' H' e' σ' → Ext F F' → After F F' H H' := fun R E' => ⟨E', R.ext, fun a h1 h2 => ⟨(R.frm a ⟨h1, h2⟩).1, R.off a ⟨h1, h2⟩⟩, R.tup⟩
  unfold fnF at m
  cases hb : body (initE N.length ds) with
  | no => rw [hb] at m; exact m
  | ex x e' => rw [hb] at m; exact fun F' H' σ' cv od R E' q => m F' H' cv od (aft R E') q
  | ok fl e' =>
    rw [hb] at m
    cases fl with
    | nx => exact fun F' H' σ' R E' => m .non F' H' (aft R E') .non
    | bk => exact m.elim
    | ct => exact m.elim
    | ret r =>
      intro v F' H' σ' R E' q hr
      refine m v F' H' (aft R E') ?_
      cases r with
      | fz d => exact q
      | fresh ds =>
        obtain ⟨p, vs, rfl, k1, k2, k3, k4, k5⟩ := q
        refine ⟨p, vs, rfl, k1, k2, k3, ?_⟩
        cases h0 : H p with
        | none => rfl
        | some o => exact absurd ⟨by rw [h0]; exact fun z => (by cases z), E'.free k3⟩ k4
      | bor j => rcases hr with hr | ⟨_, hr⟩ <;> cases hr
end
end VI
set_option Elab.async false
set_option linter.all false
set_option maxRecDepth 100000
set_option maxHeartbeats 4000000
namespace VI
open PySem PySem.Spec PyProof.Rows L2
theorem tuple_mul1 (l : Addr) (items : Array Value) (n : Nat) (dd : Option Addr) (sl : Array (Option Value)) (x : Int) (u : Tok) (c0 : (decide (x < -(2 ^ 63)) || decide (x ≥ 2 ^ 63)) = false) (c1 : (items.isEmpty || x == 1) = true) :
    Meets (Builtin.«tuple.__mul__» ⟨[.ref l, .int x u], []⟩) (fun _ R s => s.heap.get? l = some { cls := .type "tuple", dict := dd, data := .seq items n, slots := sl } ∧ R (.ok (.ret (Value.ref l))) s) :=
  .of_wp fun prog w A R s h => by
    obtain ⟨hp, g, d, tk, os⟩ := s
    obtain ⟨hl, h⟩ := h
    have f1 := AutoSeq1.idx_int
    wp_walk using wpAny_loadPart' hl
    repeat (first
      | (refine wpAny_ite_false (decide_eq_false (by rw [c0]; exact Bool.false_ne_true)) ?_; wp_walk using wpAny_loadPart' hl)
      | (refine wpAny_ite_true (decide_eq_true c1) ?_; wp_walk using wpAny_loadPart' hl))
    exact ⟨_, rfl, h⟩
theorem tuple_mul0 (l : Addr) (items : Array Value) (n : Nat) (dd : Option Addr) (sl : Array (Option Value)) (x : Int) (u : Tok) (c0 : (decide (x < -(2 ^ 63)) || decide (x ≥ 2 ^ 63)) = false) (c1 : (items.isEmpty || x == 1) = false) (c2 : (decide (x ≤ 0) || items.isEmpty) = true) :
    Meets (Builtin.«tuple.__mul__» ⟨[.ref l, .int x u], []⟩) (fun _ R s => s.heap.get? l = some { cls := .type "tuple", dict := dd, data := .seq items n, slots := sl } ∧
      R (.ok (.ret (Value.ref s.heap.objs.size))) { s with heap := s.heap.push { cls := Value.type "tuple", data := Data.seq #[] }, toks := s.toks }) :=
  .of_wp fun prog w A R s h => by
    obtain ⟨hp, g, d, tk, os⟩ := s
    obtain ⟨hl, h⟩ := h
    have f1 := AutoSeq1.idx_int
    wp_walk using wpAny_loadPart' hl
    repeat (first
      | (refine wpAny_ite_false (decide_eq_false (by rw [c0]; exact Bool.false_ne_true)) ?_; wp_walk using wpAny_loadPart' hl)
      | (refine wpAny_ite_false (decide_eq_false (by rw [c1]; exact Bool.false_ne_true)) ?_; wp_walk using wpAny_loadPart' hl)
      | (refine wpAny_ite_true (decide_eq_true c2) ?_; wp_walk using wpAny_loadPart' hl))
    exact ⟨_, rfl, h⟩
/-- a tuple times 1, an empty one times a number: the same; times 0 or less: nothing -/
def rRepT1 (K : PySem.W.Frag) : R2 := fun x y H Q => ∃ l k xs, x = .ref l ∧ y = .int k ∧ SqT K H l xs ∧ -1000 ≤ k ∧ k ≤ 1000 ∧ (xs = [] ∨ k ≤ 1) ∧ ((xs = [] ∨ k = 1) → Q (.ref l) H) ∧ (xs ≠ [] → k ≤ 0 → ∀ p, H p = none → Q (.ref p) (upd H p (.tup [])))
theorem op_repT1 {X : Cx} : OpR X (binaryOp .Mult) (rRepT1 X.K) := by
  intro pins s σ H x y v u Q I rx ry h
  obtain ⟨l, k, xs, rfl, rfl, hT, h1, h2, hk, q1, q2⟩ := h
  cases rx
  obtain ⟨t, rfl⟩ := ry
  obtain ⟨its, r, ⟨⟨cls, dd, data, sl⟩, ho, hc, n, hd⟩, hs⟩ := I.tuple hT
  simp only at hc hd
  subst hc hd
  have hle : its.length = xs.length := r.length.symm
  have c0 : (decide (k < -(2 ^ 63)) || decide (k ≥ 2 ^ 63)) = false := by
    rw [decide_eq_false (by omega), decide_eq_false (by omega)] <;> rfl
  have he : its.toArray.isEmpty = true ↔ xs = [] := by
    cases its with
    | nil => cases xs with
      | nil => simp
      | cons a b => cases hle
    | cons a b => cases xs with
      | nil => cases hle
      | cons a b => simp
  by_cases hc : xs = [] ∨ k = 1
  · have c1 : (its.toArray.isEmpty || k == 1) = true := by
      rcases hc with hc | hc
      · rw [he.mpr hc]; rfl
      · rw [hc]; simp
    refine wpAny_binaryOp_repeat_ref (T := "tuple") (U := "int") (by decide) ⟨_, ho, rfl⟩ (fun s' => typeIs_int s' k t) noFill_tuple_mul F.fills_int_mul F.slot_int_rmul repeat_tuple F.slot_int_index.lookup
      (call_meets F.slot_int_rmul (typeIs_int s k t) F.entry_int_rmul (F.args_int_rmul_2 _ _) (int_rmul_tuple k t l its.toArray n dd sl)
        ⟨ho, rfl, ⟨_, ho, rfl⟩, call_meets F.slot_tuple_mul ⟨_, ho, rfl⟩ F.entry_tuple_mul (F.args_tuple_mul_2 _ _) (tuple_mul1 l its.toArray n dd sl k t c0 c1) ⟨ho, ?_⟩⟩)
    exact ⟨.ref l, H, I, rfl, q1 hc⟩
  · have hx : xs ≠ [] := fun z => hc (.inl z)
    have hk1 : ¬ k = 1 := fun z => hc (.inr z)
    have hk0 : k ≤ 0 := by
      rcases hk with hk | hk
      · exact absurd hk hx
      · omega
    have hi : its.toArray.isEmpty = false := by
      cases h : its.toArray.isEmpty with
      | false => rfl
      | true => exact absurd (he.mp h) hx
    have c1 : (its.toArray.isEmpty || k == 1) = false := by
      rw [hi, Bool.false_or]
      exact beq_eq_false_iff_ne.mpr hk1
    have c2 : (decide (k ≤ 0) || its.toArray.isEmpty) = true := by rw [decide_eq_true hk0]; rfl
    refine wpAny_binaryOp_repeat_ref (T := "tuple") (U := "int") (by decide) ⟨_, ho, rfl⟩ (fun s' => typeIs_int s' k t) noFill_tuple_mul F.fills_int_mul F.slot_int_rmul repeat_tuple F.slot_int_index.lookup
      (call_meets F.slot_int_rmul (typeIs_int s k t) F.entry_int_rmul (F.args_int_rmul_2 _ _) (int_rmul_tuple k t l its.toArray n dd sl)
        ⟨ho, rfl, ⟨_, ho, rfl⟩, call_meets F.slot_tuple_mul ⟨_, ho, rfl⟩ F.entry_tuple_mul (F.args_tuple_mul_2 _ _) (tuple_mul0 l its.toArray n dd sl k t c0 c1 c2) ⟨ho, ?_⟩⟩)
    refine ⟨.ref s.heap.objs.size, _, I.laid (t' := s.toks) (o := .tup []) (fun b ob q => Heap.get?_push_of_some _ q) (Nat.le_refl _) ?_, rfl, q2 hx hk0 _ (I.hok.fresh (Nat.le_refl _))⟩
    exact ⟨Nat.zero_le _, _, .nil, IsTup.new _ _⟩
/-- a list times a number -/
def rRepLd : R2 := fun x y H Q => ∃ a k xs, x = .ref a ∧ y = .int k ∧ L2.Rd H a (.lst xs) ∧ -(2 ^ 63) ≤ k ∧ k < 2 ^ 63 ∧ xs.length * k.toNat ≤ sizeLine ∧ ∀ p, H p = none → Q (.ref p) (upd H p (.lst (List.replicate k.toNat xs).flatten))
theorem op_repLd {X : Cx} : OpR X (binaryOp .Mult) rRepLd := by
  intro pins s σ H x y v u Q I rx ry h
  obtain ⟨l, k, xs, rfl, rfl, hH, h1, h2, hz, q⟩ := h
  cases rx
  obtain ⟨t, rfl⟩ := ry
  obtain ⟨z, its, n, r, e⟩ := hH.ok I.hok
  have hl : xs.length = its.length := r.length
  have hlen : its.toArray.size * k.toNat ≤ sizeLine := by rw [List.size_toArray, ← hl]; exact hz
  have hcap : ¬ its.toArray.size * k.toNat > (2 ^ 63 - 1) / 8 := by
    have : (sizeLine : Nat) ≤ (2 ^ 63 - 1) / 8 := by decide
    omega
  have hfit : ¬ (!Builtin.List.listFitsIndex k) = true := by
    rw [fitsIndex_both h1 h2]
    exact Bool.false_ne_true
  have hlong : ¬ Builtin.List.listTooLong (its.toArray.size * k.toNat) = true := by
    rw [notLongL hlen]
    exact Bool.false_ne_true
  have hnew : List.foldl (fun x1 x2 => x1 ++ x2) #[] (List.replicate (if its.toArray.isEmpty = true then 0 else k.toNat) its.toArray) = (List.replicate k.toNat its).flatten.toArray := by
    have f0 : ∀ m : Nat, List.foldl (fun x1 x2 => x1 ++ x2) #[] (List.replicate m its.toArray) = (List.replicate m its).flatten.toArray := fun m => by
      have := foldl_rep its m []
      rw [List.nil_append] at this
      exact this
    rw [f0]
    cases its with
    | nil => simp
    | cons a r' => rw [if_neg (by simp)]
  refine wpAny_binaryOp_repeat_ref (T := "list") (U := "int") (by decide) ⟨_, e, rfl⟩ (fun s' => typeIs_int s' k t) noFill_list_mul F.fills_int_mul F.slot_int_rmul repeat_list F.slot_int_index.lookup
    (call_meets F.slot_int_rmul (typeIs_int s k t) F.entry_int_rmul (F.args_int_rmul_2 _ _) (int___rmul___int_list k t l its.toArray n)
      ⟨e, rfl, ⟨_, e, rfl⟩, call_meets F.slot_list_mul ⟨_, e, rfl⟩ F.entry_list_mul (F.args_list_mul_2 _ _) (AutoListH.list___mul___list_int_3 l its.toArray n k t hfit hcap hlong) ⟨e, ?_⟩⟩)
  rw [hnew]
  exact ⟨.ref _, _, I.lnew (t' := s.toks) (r.rep k.toNat) (by rw [PyProof.Rows.lm_len_rep_flat, Nat.mul_comm]; exact hz), rfl, q _ I.fresh⟩
end VI
set_option Elab.async false
set_option linter.all false
set_option maxRecDepth 100000
set_option maxHeartbeats 4000000
namespace VI
open PySem PySem.Spec PyProof.Rows L2
variable {K : PySem.W.Frag} {C : Cf} {F H : Hp} {e e' : Env} {σ : L2.St} {X : Cx}
def ii (f : Int → Int → Option D) : F2 := fun x y => match x, y with
  | .int i, .int j => (f i j).map .fz
  | _, _ => none
theorem ii_some {f : Int → Int → Option D} {dx dy : D} {z : Rv} (h : ii f dx dy = some z) : ∃ i j d, dx = .int i ∧ dy = .int j ∧ f i j = some d ∧ z = .fz d := by
  unfold ii at h
  split at h
  · rename_i i j
    cases q : f i j with
    | none => rw [q] at h; cases h
    | some d => rw [q] at h; cases h; exact ⟨i, j, d, rfl, rfl, q, rfl⟩
  · cases h
theorem opS_C {Cc : Int → Int → Prop} {g : Int → Int → Int} {f : Int → Int → Option D} (h : ∀ i j d, f i j = some d → Cc i j ∧ d = .int (g i j)) : OpS K (ii f) (rI Cc fun i j => .int (g i j)) := by
  intro F H x y dx dy z E hx hy hz Q k
  obtain ⟨i, j, d, rfl, rfl, hf, rfl⟩ := ii_some hz
  obtain ⟨hc, rfl⟩ := h i j d hf
  cases hx; cases hy
  exact ⟨i, j, rfl, rfl, hc, k _ _ (.old (.int _))⟩
def subD : F2 := ii fun i j => some (.int (i - j))
def mulOk (i j : Int) : Bool := decide ((Builtin.Int.intBits i : Int) + (Builtin.Int.intBits j : Int) ≤ 134217728)
def divOk (j : Int) : Bool := decide (0 < j) && decide (j.natAbs.log2 < 9000)
def divD : F2 := ii fun i j => if divOk j then some (.int (i / j)) else none
def modD : F2 := ii fun i j => if 0 < j then some (.int (i % j)) else none
def powOk (i j : Int) : Bool := decide (0 ≤ j) && decide (j ≤ 1000000) && decide (i.natAbs < 2 ^ 64)
def powD : F2 := ii fun i j => if powOk i j then some (.int (i ^ j.toNat)) else none
def ltD : F2 := ii fun i j => some (.bool (decide (i < j)))
def leD : F2 := ii fun i j => some (.bool (decide (i ≤ j)))
def gtD : F2 := ii fun i j => some (.bool (decide (j < i)))
def geD : F2 := ii fun i j => some (.bool (decide (j ≤ i)))
theorem s_mod : OpS K modD (rI (fun _ j => 0 < j) fun i j => .int (i % j)) := opS_C fun i j d h => by
  split at h
  · rename_i hd; cases h; exact ⟨hd, rfl⟩
  · cases h
def negD : F1 := fun x => match x with
  | .int i => some (.fz (.int (-i)))
  | _ => none
theorem rdl {pins : List (Addr × Obj)} {s : Shared} {a : Addr} {xs : List V} (I : Inv X pins σ H s) (h : L2.Rd H a (.lst xs)) : ∃ (its : List Value) (n : Nat), Vals xs its ∧ s.heap.get? a = some { cls := .type "list", data := .seq its.toArray n } ∧ xs.length ≤ sizeLine := by
  obtain ⟨z, its, n, r, q⟩ := h.ok I.hok
  exact ⟨its, n, r, q, z⟩
def rCatL : R2 := fun x y H Q => ∃ a b xs ys, x = .ref a ∧ y = .ref b ∧ L2.Rd H a (.lst xs) ∧ L2.Rd H b (.lst ys) ∧ xs.length + ys.length ≤ sizeLine ∧ ∀ p, H p = none → Q (.ref p) (upd H p (.lst (xs ++ ys)))
theorem op_catL : OpR X (binaryOp .Add) rCatL := by
  rintro pins s σ H x y v u Q I rx ry ⟨a, b, xs, ys, rfl, rfl, ha, hb, hz, k⟩
  cases rx; cases ry
  obtain ⟨i1, n1, v1, o1, z1⟩ := rdl I ha
  obtain ⟨i2, n2, v2, o2, z2⟩ := rdl I hb
  have l1 := v1.length
  have l2 := v2.length
  have both : i1.toArray ++ i2.toArray = (i1 ++ i2).toArray := by simp
  refine PySem.P.add_list o1 o2 ?_ (by rw [List.size_toArray, List.size_toArray]; omega)
  rw [both]
  exact ⟨.ref _, _, I.lnew (t' := s.toks) (v1.append v2) (by rw [List.length_append]; exact hz), rfl, k _ I.fresh⟩
def addD : F2 := fun x y => match x, y with
  | .int i, .int j => some (.fz (.int (i + j)))
  | .str i, .str j => if i.length + j.length ≤ sizeLine then some (.fz (.str (i ++ j))) else none
  | .tuple xs, .tuple ys => if xs.length + ys.length ≤ sizeLine then some (.fz (.tuple (xs ++ ys))) else none
  | .list xs, .list ys => if xs.length + ys.length ≤ sizeLine then some (.fresh (xs ++ ys)) else none
  | _, _ => none
def rAddU (K : PySem.W.Frag) : R2 := fun x y H Q => (rI0 fun i j => .int (i + j)) x y H Q ∨ (fun x y H Q => ∃ i j, x = .str i ∧ y = .str j ∧ i.length + j.length ≤ sizeLine ∧ Q (.str (i ++ j)) H) x y H Q ∨ rCatA K x y H Q ∨ rCatL x y H Q
theorem op_addU : OpR X (binaryOp .Add) (rAddU X.K) := op_add.or (op_add_str.or (op_catA.or op_catL))
theorem s_add : OpS K addD (rAddU K) := by
  intro F H x y dx dy z E hx hy hz Q k
  unfold addD at hz
  split at hz
  · cases hz; cases hx; cases hy; exact .inl ⟨_, _, rfl, rfl, k _ _ (.old (.int _))⟩
  · split at hz
    · rename_i hl; cases hz; cases hx; cases hy; exact .inr (.inl ⟨_, _, rfl, rfl, hl, k _ _ (.old (.str _))⟩)
    · cases hz
  · split at hz
    · rename_i ds es hl
      cases hz
      cases hx with
      | tup h1 d1 =>
        cases hy with
        | tup h2 d2 =>
          refine .inr (.inr (.inl ⟨_, _, _, _, rfl, rfl, ext_t E h1, ext_t E h2, by rw [d1.length, d2.length]; exact hl, fun e0 => ?_, fun _ e0 => ?_, fun _ _ p hp => k _ _ (.tup hp (d1.append d2))⟩))
          · subst e0; cases d1; exact k _ _ (.old (.tup h2 d2))
          · subst e0; cases d2; rw [List.append_nil] at k; exact k _ _ (.old (.tup h1 d1))
    · cases hz
  · split at hz
    · rename_i ds es hl
      cases hz
      cases hx with
      | lst h1 d1 =>
        cases hy with
        | lst h2 d2 => exact .inr (.inr (.inr ⟨_, _, _, _, rfl, rfl, h1, h2, by rw [d1.length, d2.length]; exact hl, fun p hp => k _ _ (.lst hp (d1.append d2))⟩))
    · cases hz
  · cases hz
theorem DpAll.rep {vs : List V} {ds : List D} (h : DpAll K F vs ds) : ∀ n : Nat, DpAll K F (List.replicate n vs).flatten (List.replicate n ds).flatten
  | 0 => .nil
  | n + 1 => by
    rw [List.replicate_succ, List.replicate_succ, List.flatten_cons, List.flatten_cons]
    exact h.append (DpAll.rep h n)
def mulD : F2 := fun x y => match x, y with
  | .int i, .int j => if mulOk i j then some (.fz (.int (i * j))) else none
  | .tuple xs, .int k => if -1000 ≤ k ∧ k ≤ 1000 ∧ xs.length ≤ 1000 then some (.fz (.tuple (List.replicate k.toNat xs).flatten)) else none
  | .list xs, .int k => if -1000 ≤ k ∧ k ≤ 1000 ∧ xs.length ≤ 1000 then some (.fresh (List.replicate k.toNat xs).flatten) else none
  | _, _ => none
def rMulU (K : PySem.W.Frag) : R2 := fun x y H Q => (rI CMulX fun i j => .int (i * j)) x y H Q ∨ rRepT K x y H Q ∨ rRepT1 K x y H Q ∨ rRepLd x y H Q
theorem op_mulU {X : Cx} : OpR X (binaryOp .Mult) (rMulU X.K) := op_mulX.or (op_repT.or (op_repT1.or op_repLd))
theorem mulOk_ok {i j : Int} (h : mulOk i j = true) : CMulX i j := by
  unfold mulOk at h
  have h2 := of_decide_eq_true h
  exact h2
theorem flat_rep_nil {α : Type} : ∀ n : Nat, (List.replicate n ([] : List α)).flatten = []
  | 0 => rfl
  | n + 1 => by rw [List.replicate_succ, List.flatten_cons, flat_rep_nil n]; rfl
theorem s_mul : OpS K mulD (rMulU K) := by
  intro F H x y dx dy z E hx hy hz Q k
  unfold mulD at hz
  split at hz
  · split at hz
    · rename_i hm; cases hz; cases hx; cases hy; exact .inl ⟨_, _, rfl, rfl, mulOk_ok hm, k _ _ (.old (.int _))⟩
    · cases hz
  · split at hz
    · rename_i ds kk hc
      cases hz
      cases hy
      cases hx with
      | tup h1 d1 =>
        rename_i a xs
        by_cases h2 : xs ≠ [] ∧ 2 ≤ kk
        · exact .inr (.inl ⟨_, _, _, rfl, rfl, ext_t E h1, h2.1, h2.2, hc.2.1, by rw [d1.length]; exact hc.2.2, fun p hp => k _ _ (.tup hp (d1.rep _))⟩)
        · refine .inr (.inr (.inl ⟨_, _, _, rfl, rfl, ext_t E h1, hc.1, hc.2.1, ?_, fun h3 => ?_, fun h3 h4 p hp => ?_⟩))
          · by_cases h3 : xs = []
            · exact .inl h3
            · exact .inr (by
                have : ¬ (2 ≤ kk) := fun z => h2 ⟨h3, z⟩
                omega)
          · have e : (List.replicate kk.toNat ds).flatten = ds := by
              rcases h3 with h3 | h3
              · subst h3; cases d1; exact flat_rep_nil _
              · subst h3; simp
            rw [e] at k
            exact k _ _ (.old (.tup h1 d1))
          · have e : (List.replicate kk.toNat ds).flatten = [] := by
              rw [show kk.toNat = 0 by omega]; rfl
            rw [e] at k
            exact k _ _ (.tup hp .nil)
    · cases hz
  · split at hz
    · rename_i ds kk hc
      cases hz
      cases hy
      cases hx with
      | lst h1 d1 =>
        have hl := d1.length
        refine .inr (.inr (.inr ⟨_, _, _, rfl, rfl, h1, by omega, by omega, ?_, fun p hp => k _ _ (.lst hp (d1.rep _))⟩))
        have : ds.length * kk.toNat ≤ 1000 * 1000 := Nat.mul_le_mul hc.2.2 (by omega)
        rw [hl, sizeLine_eq]; omega
    · cases hz
  · cases hz
def twoStr : D → D → Bool
  | .str _, .str _ => true
  | _, _ => false
def eqD : F2 := fun x y => if twoStr x y || (SeqAt.shaped x && SeqAt.shaped y) then some (.fz (.bool (PyData.eqv x y))) else none
def neD : F2 := fun x y => if twoStr x y || (SeqAt.shaped x && SeqAt.shaped y) then some (.fz (.bool (!PyData.eqv x y))) else none
def rEqU (K : PySem.W.Frag) : R2 := fun x y H Q => rEq x y H Q ∨ rEqD K x y H Q
def rNeU (K : PySem.W.Frag) : R2 := fun x y H Q => rNe x y H Q ∨ rNeD K x y H Q
theorem op_eqU {X : Cx} (hu : X.A.units + 64 < cLine) : OpR X (compareOp .Eq) (rEqU X.K) := op_eq.or (op_eqD hu)
theorem op_neU {X : Cx} (hu : X.A.units + 64 < cLine) : OpR X (compareOp .NotEq) (rNeU X.K) := op_ne.or (op_neD hu)
theorem s_eq : OpS K eqD (rEqU K) := by
  intro F H x y dx dy z E hx hy hz Q k
  unfold eqD at hz
  split at hz
  · rename_i hs
    cases hz
    rw [Bool.or_eq_true, Bool.and_eq_true] at hs
    rcases hs with hs | hs
    · unfold twoStr at hs
      split at hs
      · cases hx; cases hy
        exact .inl ⟨rfl, by rw [dec_str]; exact k _ _ (.old (.bl _))⟩
      · cases hs
    · exact .inr ⟨dx, dy, (hx.dp E).l2 (plain_shaped hs.1), (hy.dp E).l2 (plain_shaped hs.2), hs.1, hs.2, k _ _ (.old (.bl _))⟩
  · cases hz
theorem s_ne : OpS K neD (rNeU K) := by
  intro F H x y dx dy z E hx hy hz Q k
  unfold neD at hz
  split at hz
  · rename_i hs
    cases hz
    rw [Bool.or_eq_true, Bool.and_eq_true] at hs
    rcases hs with hs | hs
    · unfold twoStr at hs
      split at hs
      · cases hx; cases hy
        exact .inl ⟨rfl, by rw [dec_str]; exact k _ _ (.old (.bl _))⟩
      · cases hs
    · exact .inr ⟨dx, dy, (hx.dp E).l2 (plain_shaped hs.1), (hy.dp E).l2 (plain_shaped hs.2), hs.1, hs.2, k _ _ (.old (.bl _))⟩
  · cases hz
def isNone : D → Bool
  | .none => true
  | _ => false
def isND : F2 := fun x y => match y with
  | .none => some (.fz (.bool (isNone x)))
  | _ => none
def notND : F2 := fun x y => match y with
  | .none => some (.fz (.bool (!isNone x)))
  | _ => none
theorem isNone_v {x : V} {d : D} (h : Dh K F H x d) : decide (x = V.non) = isNone d := by
  cases h with
  | oth h => cases h <;> (apply decide_eq_false; exact fun z => by cases z)
  | _ => first | rfl | (apply decide_eq_false; exact fun z => by cases z)
theorem s_isN : OpS K isND (fun x y H Q => y = .non ∧ Q (.bl (decide (x = .non))) H) := by
  intro F H x y dx dy z E hx hy hz Q k
  unfold isND at hz
  split at hz
  · cases hz; cases hy; exact ⟨rfl, by rw [isNone_v hx]; exact k _ _ (.old (.bl _))⟩
  · cases hz
def notBD : F2 := fun x y => match x, y with
  | .bool a, .bool b => some (.fz (.bool (!decide (a = b))))
  | _, _ => none
theorem s_notB : OpS K notBD rNotB := by
  intro F H x y dx dy z E hx hy hz Q k
  unfold notBD at hz
  split at hz
  · cases hz; cases hx; cases hy; exact ⟨_, _, rfl, rfl, k _ _ (.old (.bl _))⟩
  · cases hz
def ixD : F2 := fun x y => match x, y with
  | .list ds, .int i => (atI ds i).map .fz
  | .tuple ds, .int i => (atI ds i).map .fz
  | .str z, .int i => if z.length ≤ sizeLine then (atI z.cps.toList i).map fun c => .fz (.str ⟨#[c]⟩) else none
  | _, _ => none
theorem DpAll.at {vs : List V} {ds : List D} {i : Int} {d : D} (h : DpAll K F vs ds) (q : atI ds i = some d) : ∃ v, atI vs i = some v ∧ Dp K F v d := by
  unfold atI at q ⊢
  rw [h.length]
  cases hj : ixN ds.length i with
  | none => rw [hj] at q; cases q
  | some j =>
    rw [hj] at q
    obtain ⟨v, h1, h2⟩ := h.get (i := j) q
    exact ⟨v, h1, h2⟩
theorem s_ix : OpS K ixD (rIx K) := by
  intro F H x y dx dy z E hx hy hz Q k
  unfold ixD at hz
  split at hz
  · rename_i ds i
    cases hy
    cases q : atI ds i with
    | none => rw [q] at hz; cases hz
    | some d =>
      rw [q] at hz; cases hz
      cases hx with
      | lst h1 d1 =>
        obtain ⟨v, h2, h3⟩ := d1.at q
        exact .inl ⟨_, _, _, v, rfl, rfl, .inl h1, h2, k _ _ (.old h3)⟩
  · rename_i ds i
    cases hy
    cases q : atI ds i with
    | none => rw [q] at hz; cases hz
    | some d =>
      rw [q] at hz; cases hz
      cases hx with
      | tup h1 d1 =>
        obtain ⟨v, h2, h3⟩ := d1.at q
        exact .inr (.inl ⟨_, _, _, v, rfl, rfl, ext_t E h1, h2, k _ _ (.old h3)⟩)
  · rename_i t i
    split at hz
    · rename_i hl
      cases hy; cases hx
      cases q : atI t.cps.toList i with
      | none => rw [q] at hz; cases hz
      | some c =>
        rw [q] at hz; cases hz
        exact .inr (.inr ⟨_, _, c, rfl, rfl, hl, q, k _ _ (.old (.str _))⟩)
    · cases hz
  · cases hz
/-- x[lo:hi] -/
def cutD (xs : List D) (lo hi : Option Int) : List D := (xs.drop (HT.sIx xs.length 0 lo)).take (HT.sIx xs.length xs.length hi - HT.sIx xs.length 0 lo)
def slD (x : D) (lo hi : Option Int) : Option Rv := match x with
  | .list ds => some (.fresh (cutD ds lo hi))
  | .tuple ds => some (.fz (.tuple (cutD ds lo hi)))
  | .str z => if z.length ≤ sizeLine then some (.fz (.str (cutS z lo hi))) else none
  | _ => none
theorem DpAll.cut {vs : List V} {ds : List D} (h : DpAll K F vs ds) (lo hi : Option Int) : DpAll K F (cutV vs lo hi) (cutD ds lo hi) := by
  unfold cutV cutD
  rw [h.length]
  exact (h.drop _).take _
def rSlU (K : PySem.W.Frag) : V → Option Int → Option Int → Hp → VK → Prop := fun x lo hi H Q => rSlL K x lo hi H Q ∨ rSlA K x lo hi H Q ∨ rSlS x lo hi H Q
theorem sl_any : SlR X (rSlU X.K) := sl_list.or (sl_tupA.or sl_str)
theorem s_sl {F H : Hp} {x : V} {dx : D} {lo hi : Option Int} {z : Rv} (E : Ext F H) (hx : Dh K F H x dx) (hz : slD dx lo hi = some z) {Q : VK} (k : ∀ v H', Res K F H z v H' → Q v H') : rSlU K x lo hi H Q := by
  unfold slD at hz
  split at hz
  · cases hz
    cases hx with
    | lst h1 d1 => exact .inl ⟨_, _, rfl, .inl h1, fun p hp => k _ _ (.lst hp (d1.cut lo hi))⟩
  · rename_i ds
    cases hz
    cases hx with
    | tup h1 d1 =>
      refine .inr (.inl ⟨_, _, rfl, ext_t E h1, fun hw => ?_, fun _ p hp => k _ _ (.tup hp (d1.cut lo hi))⟩)
      have : cutD ds lo hi = ds := by
        unfold cutD
        rw [d1.length] at hw
        rw [hw.1, hw.2, List.drop_zero, Nat.sub_zero, List.take_length]
      rw [this] at k
      exact k _ _ (.old (.tup h1 d1))
  · split at hz
    · rename_i hl
      cases hz; cases hx
      exact .inr (.inr ⟨_, rfl, hl, k _ _ (.old (.str _))⟩)
    · cases hz
  · cases hz
/-- a part of a cut: none, or an int -/
def opI (a : Option Ev) : Sem1 (Option Int) := fun e => match a with
  | none => .ok none e
  | some a => (opd a e).bind fun r e1 => match r with
    | .fz (.int i) => .ok (some i) e1
    | _ => .no
def slE (a : Ev) (lo hi : Option Ev) : Ev := fun e => (opd a e).bind fun x e1 => (opI lo e1).bind fun l e2 => (opI hi e2).bind fun u e3 => ofO ((peek x e3).bind fun dx => slD dx l u) e3
abbrev RO : Cf → Hp → Hp → Env → L2.St → Option Int → Option Int → Prop := fun _ _ _ _ _ a b => a = b
abbrev rdO (w : Wd) (a : Option Ev) : TO := Rd w RO (opI a)
theorem po_mono {ex : Option Expr} {t t' : TO} (h : PO X ex t) (w : ∀ σ H Q, t' σ H Q → t σ H Q) : PO X ex t' := ⟨fun pins s σ H Q I q => h.run pins s σ H Q I (w σ H Q q)⟩
theorem vo_none {w : Wd} : PO X none (rdO w none) := po_mono po_none fun σ H Q q => by
  obtain ⟨C, F, e, R, P⟩ := q
  exact P.ok' R rfl
theorem vo_some {w : Wd} {ex : Expr} {a : Ev} (h : PE X ex (rdR w a)) : PO X (some ex) (rdO w (some a)) := po_mono (po_some h) fun σ H Q q => by
  obtain ⟨C, F, e, R, P⟩ := q
  refine rd_opd (bindP R P fun F1 H1 e1 r v h1 R1 E1 q1 P1 => ?_)
  split at P1
  · cases q1; exact ⟨_, rfl, P1.ok' R1 rfl⟩
  · exact P1.elim
theorem ve_slice {w : Wd} {ex : Expr} {lo hi : Option Expr} {p2 pos : Pos} {a : Ev} {l u : Option Ev} (hw : w.K = X.K) (he : PE X ex (rdR w a)) (hl : PO X lo (rdO w l)) (hu : PO X hi (rdO w u)) : PE X (.Subscript ex (.Slice lo hi none p2) pos) (rdR w (slE a l u)) :=
  pe_mono (pe_slice sl_any he hl hu) fun σ H Q h => by
    obtain ⟨C, F, e, R, P⟩ := h
    refine rd_opd (bindP R P fun F1 H1 e1 x v h1 R1 E1 q1 P1 => ?_)
    refine bindP R1 P1 fun F2 H2 e2 li l' h2 R2 E2 q2 P2 => ?_
    cases q2
    refine bindP R2 P2 fun F3 H3 e3 ui u' h3 R3 E3 q3 P3 => ?_
    cases q3
    obtain ⟨z, hz, P4⟩ := post_ofO P3
    obtain ⟨dx, hx, hf⟩ := Option.bind_eq_some_iff.mp hz
    rw [← hw]
    exact s_sl R3.ext (RvR.peek R3 (opd_still h1) (RvR.later (opd_still h1) (E2.trans E3) q1) hx) hf fun v H' q => P4.res R3 q
end VI
set_option Elab.async false
set_option linter.all false
set_option maxRecDepth 100000
set_option maxHeartbeats 4000000
namespace VI
open PySem PySem.Spec PyProof.Rows L2
variable {K : PySem.W.Frag} {C : Cf} {F H : Hp} {e e' : Env} {σ : L2.St}
def intsD : List D → Option (List Int)
  | [] => some []
  | .int i :: ds => (intsD ds).map (i :: ·)
  | _ :: _ => none
theorem intsD_map : ∀ (ns : List Int), intsD (ns.map .int) = some ns
  | [] => rfl
  | n :: ns => by
    show (intsD (ns.map .int)).map (n :: ·) = _
    rw [intsD_map ns]; rfl
def boolsD : List D → Option (List Bool)
  | [] => some []
  | .bool i :: ds => (boolsD ds).map (i :: ·)
  | _ :: _ => none
theorem boolsD_some : ∀ {ds : List D} {ns : List Bool}, boolsD ds = some ns → ds = ns.map .bool
  | [], _, h => by cases h; rfl
  | .bool i :: ds, ns, h => by
    unfold boolsD at h
    cases q : boolsD ds with
    | none => rw [q] at h; cases h
    | some ms => rw [q] at h; cases h; rw [boolsD_some q]; rfl
  | .none :: _, _, h => by cases h
  | .int _ :: _, _, h => by cases h
  | .str _ :: _, _, h => by cases h
  | .list _ :: _, _, h => by cases h
  | .tuple _ :: _, _, h => by cases h
  | .dict _ :: _, _, h => by cases h
theorem boolsD_map : ∀ (ns : List Bool), boolsD (ns.map .bool) = some ns
  | [] => rfl
  | n :: ns => by
    show (boolsD (ns.map .bool)).map (n :: ·) = _
    rw [boolsD_map ns]; rfl
def on1 (f : D → Option Rv) : List D → Option Rv
  | [d] => f d
  | _ => none
theorem callS1 {f : D → Option Rv} {r : List V → Hp → VK → Prop} (h : ∀ F H v d z, Ext F H → Dh K F H v d → f d = some z → ∀ Q : VK, (∀ v H', Res K F H z v H' → Q v H') → r [v] H Q) : CallS K (on1 f) r := by
  intro F H vs ds z E hv hz Q k
  cases hv with
  | nil => cases hz
  | cons h1 h2 =>
    cases h2 with
    | nil => exact h F H _ _ z E h1 hz Q k
    | cons _ _ => cases hz
def on2 (f : D → D → Option Rv) : List D → Option Rv
  | [c, d] => f c d
  | _ => none
def lenD : D → Option Rv
  | .list ds => some (.fz (.int ds.length))
  | .tuple ds => some (.fz (.int ds.length))
  | .str z => if z.length ≤ sizeLine then some (.fz (.int z.length)) else none
  | _ => none
def rLenU (K : PySem.W.Frag) : List V → Hp → VK → Prop := fun xs H Q => (∃ p ys, xs = [.ref p] ∧ (SqL K H p ys ∨ SqT K H p ys) ∧ Q (.int ys.length) H) ∨ (∃ z, xs = [.str z] ∧ z.length ≤ sizeLine ∧ Q (.int z.length) H)
theorem c_len {X : Cx} : CallR X (.builtin "len") (rLenU X.K) := call_len_seq.or call_len_str
theorem s_len : CallS K (on1 lenD) (rLenU K) := callS1 fun F H v d z E h hz Q k => by
  unfold lenD at hz
  split at hz
  · cases hz
    cases h with
    | lst h1 d1 => exact .inl ⟨_, _, rfl, .inl (.inl h1), by rw [d1.length]; exact k _ _ (.old (.int _))⟩
  · cases hz
    cases h with
    | tup h1 d1 => exact .inl ⟨_, _, rfl, .inr (ext_t E h1), by rw [d1.length]; exact k _ _ (.old (.int _))⟩
  · split at hz
    · rename_i hl
      cases hz; cases h
      exact .inr ⟨_, rfl, hl, k _ _ (.old (.int _))⟩
    · cases hz
  · cases hz
def tupD : D → Option Rv
  | .list ds => some (.fz (.tuple ds))
  | .tuple ds => some (.fz (.tuple ds))
  | _ => none
def lstD : D → Option Rv
  | .list ds => some (.fresh ds)
  | .tuple ds => some (.fresh ds)
  | _ => none
def absD : D → Option Rv
  | .int i => some (.fz (.int (if i < 0 then -i else i)))
  | _ => none
theorem s_abs : CallS K (on1 absD) (fun xs H Q => ∃ i, xs = [V.int i] ∧ Q (.int (if i < 0 then -i else i)) H) := callS1 fun F H v d z E h hz Q k => by
  unfold absD at hz
  split at hz
  · cases hz; cases h; exact ⟨_, rfl, k _ _ (.old (.int _))⟩
  · cases hz
def intD : D → Option Rv
  | .int i => some (.fz (.int i))
  | .bool b => some (.fz (.int (if b then 1 else 0)))
  | _ => none
def strD : D → Option Rv
  | .int i => if i.natAbs.log2 < 1920 then some (.fz (.str (toString i))) else none
  | _ => none
theorem s_str : CallS K (on1 strD) (fun xs H Q => ∃ i, xs = [V.int i] ∧ i.natAbs.log2 < 1920 ∧ Q (.str (toString i)) H) := callS1 fun F H v d z E h hz Q k => by
  unfold strD at hz
  split at hz
  · split at hz
    · rename_i hl; cases hz; cases h; exact ⟨_, rfl, hl, k _ _ (.old (.str _))⟩
    · cases hz
  · cases hz
def min2D : D → D → Option Rv
  | .int i, .int j => some (.fz (.int (if j < i then j else i)))
  | _, _ => none
def max2D : D → D → Option Rv
  | .int i, .int j => some (.fz (.int (if j > i then j else i)))
  | _, _ => none
def allD : D → Option Rv
  | .list ds => (boolsD ds).map fun bs => .fz (.bool (bs.all id))
  | _ => none
def anyD : D → Option Rv
  | .list ds => (boolsD ds).map fun bs => .fz (.bool (bs.any id))
  | _ => none
theorem s_all : CallS K (on1 allD) (rAll K) := callS1 fun F H v d z E h hz Q k => by
  unfold allD at hz
  split at hz
  · rename_i ds
    obtain ⟨bs, h1, h2⟩ := Option.map_eq_some_iff.mp hz
    cases h2
    have := boolsD_some h1
    subst this
    cases h with
    | lst h1 d1 =>
      have := d1.bls
      subst this
      exact ⟨_, bs, rfl, .inl h1, k _ _ (.old (.bl _))⟩
  · cases hz
end VI
set_option Elab.async false
set_option linter.all false
set_option maxRecDepth 100000
set_option maxHeartbeats 4000000
namespace VI
open PySem PySem.Spec PyProof.Rows L2
variable {K : PySem.W.Frag} {C : Cf} {F H : Hp} {e e' : Env} {σ : L2.St}
def isIntB : D → Bool
  | .int _ => true
  | .bool _ => true
  | _ => false
def isBoolB : D → Bool
  | .bool _ => true
  | _ => false
def isStrB : D → Bool
  | .str _ => true
  | _ => false
def isLstB : D → Bool
  | .list _ => true
  | _ => false
def isTupB : D → Bool
  | .tuple _ => true
  | _ => false
structure KindF (T : String) (f : D → Bool) : Prop where
  mem : T ∈ ["int", "bool", "str", "list", "tuple"]
  oth : ∀ kvs, f (.dict kvs) = false
  dct : kitB "dict" T = some false
  non : kitB "NoneType" T = some (f .none)
  bl : ∀ b, kitB "bool" T = some (f (.bool b))
  int : ∀ b, kitB "int" T = some (f (.int b))
  str : ∀ b, kitB "str" T = some (f (.str b))
  lst : ∀ b, kitB "list" T = some (f (.list b))
  tup : ∀ b, kitB "tuple" T = some (f (.tuple b))
theorem kindInt : KindF "int" isIntB := ⟨by decide, fun _ => rfl, by decide +kernel, by decide +kernel, fun _ => by show kitB "bool" "int" = some true; decide +kernel, fun _ => by show kitB "int" "int" = some true; decide +kernel, fun _ => by show kitB "str" "int" = some false; decide +kernel, fun _ => by show kitB "list" "int" = some false; decide +kernel, fun _ => by show kitB "tuple" "int" = some false; decide +kernel⟩
theorem kindBool : KindF "bool" isBoolB := ⟨by decide, fun _ => rfl, by decide +kernel, by decide +kernel, fun _ => by show kitB "bool" "bool" = some true; decide +kernel, fun _ => by show kitB "int" "bool" = some false; decide +kernel, fun _ => by show kitB "str" "bool" = some false; decide +kernel, fun _ => by show kitB "list" "bool" = some false; decide +kernel, fun _ => by show kitB "tuple" "bool" = some false; decide +kernel⟩
theorem kindStr : KindF "str" isStrB := ⟨by decide, fun _ => rfl, by decide +kernel, by decide +kernel, fun _ => by show kitB "bool" "str" = some false; decide +kernel, fun _ => by show kitB "int" "str" = some false; decide +kernel, fun _ => by show kitB "str" "str" = some true; decide +kernel, fun _ => by show kitB "list" "str" = some false; decide +kernel, fun _ => by show kitB "tuple" "str" = some false; decide +kernel⟩
theorem kindLst : KindF "list" isLstB := ⟨by decide, fun _ => rfl, by decide +kernel, by decide +kernel, fun _ => by show kitB "bool" "list" = some false; decide +kernel, fun _ => by show kitB "int" "list" = some false; decide +kernel, fun _ => by show kitB "str" "list" = some false; decide +kernel, fun _ => by show kitB "list" "list" = some true; decide +kernel, fun _ => by show kitB "tuple" "list" = some false; decide +kernel⟩
theorem kindTup : KindF "tuple" isTupB := ⟨by decide, fun _ => rfl, by decide +kernel, by decide +kernel, fun _ => by show kitB "bool" "tuple" = some false; decide +kernel, fun _ => by show kitB "int" "tuple" = some false; decide +kernel, fun _ => by show kitB "str" "tuple" = some false; decide +kernel, fun _ => by show kitB "list" "tuple" = some false; decide +kernel, fun _ => by show kitB "tuple" "tuple" = some true; decide +kernel⟩
theorem asked_kind {C : Addr} {n : Str} (x : ExK K C n) {T : String} {f : D → Bool} (k : KindF T f) : PySem.W.kitOne K (.ref C) (.type T) = some false := by
  have h := x.asked T (by have := k.mem; revert this; unfold askedB; simp only [List.mem_cons, List.not_mem_nil, or_false]; rintro (h | h | h | h | h) <;> simp [h])
  rw [h]
  have e : T ≠ excBase n := by
    have := k.mem
    have hb : excBase n = "LookupError" ∨ excBase n = "RuntimeError" ∨ excBase n = "OverflowError" ∨ excBase n = "ValueError" := by
      unfold excBase
      split
      · exact .inl rfl
      · split
        · exact .inr (.inl rfl)
        · split
          · exact .inr (.inr (.inl rfl))
          · exact .inr (.inr (.inr rfl))
    simp only [List.mem_cons, List.not_mem_nil, or_false] at this
    rcases this with h | h | h | h | h <;> rcases hb with q | q | q | q <;> rw [h, q] <;> decide
  rw [decide_eq_false e]
/-- the type of a thing: isinstance's answers -/
inductive TyE (K : PySem.W.Frag) (H : Hp) : V → Value → Prop where
  | one {v : V} {t : Value} : TyX K H v t → TyE K H v t
  | exc {a C d : Addr} {n : Str} : ExK K C n → H a = some (exk a C d) → (∃ fs, H d = some (.xd fs)) → TyE K H (.ref a) (.ref C)
  | dcT {a : Addr} {kvs : List (List Key × V)} : L2.Rd H a (.dT kvs) → TyE K H (.ref a) (.type "dict")
  | dcK {a : Addr} {kvs : List (Key × V)} : L2.Rd H a (.dK kvs) → TyE K H (.ref a) (.type "dict")
theorem ty_of {v : V} {d : D} (E : Ext F H) (h : Dh K F H v d) : ∃ t, TyE K H v t ∧ ∀ T f, KindF T f → PySem.W.kitOne K t (.type T) = some (f d) := by
  cases h with
  | non => exact ⟨_, .one (.base .non), fun T f k => kit_ty k.non⟩
  | bl b => exact ⟨_, .one (.base (.bl b)), fun T f k => kit_ty (k.bl b)⟩
  | int b => exact ⟨_, .one (.base (.int b)), fun T f k => kit_ty (k.int b)⟩
  | str b => exact ⟨_, .one (.base (.str b)), fun T f k => kit_ty (k.str b)⟩
  | lst h1 d1 =>
    refine ⟨.type "list", .one ?_, fun T f k => kit_ty (k.lst _)⟩
    rcases h1 with h1 | ⟨o, h1⟩
    · exact .base (.lst h1)
    · exact .base (.frz h1)
  | tup h1 d1 =>
    refine ⟨.type "tuple", .one ?_, fun T f k => kit_ty (k.tup _)⟩
    rcases ext_t E h1 with h1 | ⟨o, its, n, h1, h2, _⟩
    · rcases h1 with h1 | ⟨o, h1⟩
      · exact .base (.tup h1)
      · exact .fTuple h1
    · exact .kTuple h1 h2
  | oth h =>
    cases h with
    | exc x h1 h2 r => exact ⟨_, .exc x (E _ _ h1) ⟨_, E _ _ h2⟩, fun T f k => by rw [asked_kind x k, k.oth]⟩
    | dcT h1 _ => exact ⟨_, .dcT (.inr ⟨_, E _ _ h1⟩), fun T f k => by rw [k.oth]; exact kit_ty k.dct⟩
    | dcK h1 _ => exact ⟨_, .dcK (.inr ⟨_, E _ _ h1⟩), fun T f k => by rw [k.oth]; exact kit_ty k.dct⟩
section
variable {X : Cx} {pins : List (Addr × Obj)} {s : Shared}
theorem kit_ofE {x : V} {u t : Value} (I : Inv X pins σ H s) (rx : RelV x u) (ty : TyE X.K H x t) : ∃ P : Heap → Prop, PySem.W.KitX X.K u t P ∧ P s.heap ∧ u ≠ .builtin "__main__.__loader__#opaque" := by
  cases ty with
  | one ty => exact kit_of I rx ty
  | @exc a C d n x h1 h2 =>
    cases (show u = Value.ref a from rx)
    obtain ⟨fs, h2⟩ := h2
    obtain ⟨oe, vs, e1, e2, e3⟩ := exk_at I.hok h1
    have hx : ObjOk X.prog X.w H s.heap d (.xd fs) := I.hok d _ h2
    obtain ⟨mA, hns, hr⟩ := hx
    obtain ⟨od, ho, hl⟩ := lookIn_ns hns
    refine ⟨fun h => PySem.W.InstAt h a oe C (some od), PySem.W.kitx_exc (by
      have := x.nm
      unfold clsNm at this
      cases hc : PySem.W.clsIn X.K C with
      | none => rw [hc] at this; cases this
      | some cd => rfl) x.ex.hg x.ex.hk x.ex.hs x.ex.ha x.ex.hn x.ex.ht x.ex.hm, ?_, fun z => nomatch z⟩
    exact ⟨e1, e2.1, by unfold PySem.W.notCls; rw [e3], by rw [e2.2]; exact ho⟩
  | @dcT a kvs h =>
    rcases h with h | ⟨o, h⟩
    · exact kit_of I rx (.base (.dT h))
    · cases (show u = Value.ref a from rx)
      obtain ⟨_, _, _, xs, _, o', es, ep, h1, h2, _⟩ := (show ObjOk X.prog X.w H s.heap a (.frz o (.dT kvs)) from I.hok a _ h)
      exact ⟨_, PySem.W.kitx_dict, ⟨o', h1, h2.1⟩, fun z => nomatch z⟩
  | @dcK a kvs h =>
    rcases h with h | ⟨o, h⟩
    · exact kit_of I rx (.base (.dK h))
    · exact kit_of I rx (.fDict h)
end
def isD (fs : List (D → Bool)) : F1 := fun d => some (.fz (.bool (fs.any fun f => f d)))
def KindFs : List String → List (D → Bool) → Prop := Paired KindF
theorem kit_any {n : Value} {d : D} : ∀ {Ts : List String} {fs : List (D → Bool)}, KindFs Ts fs → (∀ T f, KindF T f → PySem.W.kitOne K n (.type T) = some (f d)) → PySem.W.kitAny K n (Ts.map Value.type) = some (fs.any fun f => f d)
  | _, _, .nil, _ => kitAny_nil
  | _, _, .cons (a := T) (b := f) k r, h => by
    rw [List.map_cons, List.any_cons]
    refine kitAny_cons (b := f d) (h T f k) (fun e => ?_) (fun e => by rw [e]; rfl)
    rw [e, Bool.false_or]
    exact kit_any r h
section
variable {X : Cx}
def rIsX (K : PySem.W.Frag) : List V → Hp → VK → Prop := fun xs H Q => ∃ (x c : V) (t u : Value) (b : Bool), xs = [x, c] ∧ ClsV c u ∧ TyE K H x t ∧ PySem.W.kitOne K t u = some b ∧ Q (.bl b) H
def rIsXT (K : PySem.W.Frag) : List V → Hp → VK → Prop := fun xs H Q => ∃ (x : V) (tp : Addr) (cs : List V) (t : Value) (us : List Value) (b : Bool), xs = [x, .ref tp] ∧ H tp = some (.tup cs) ∧ Paired ClsV cs us ∧ TyE K H x t ∧ PySem.W.kitAny K t us = some b ∧ Q (.bl b) H
theorem call_isX : CallR X (.builtin "isinstance") (rIsX X.K) := by
  intro pins s σ H xs us Q I r h
  obtain ⟨x, c, t, u, b, rfl, k, ty, e, q⟩ := h
  obtain ⟨u1, u2, rfl, r1, r2⟩ := vals2 r
  have e2 := k.eq r2
  subst e2
  obtain ⟨P, Z, p, hx⟩ := kit_ofE I r1 ty
  exact PySem.W.kia_one Z I.kIn p e hx fun tk => ⟨.bl b, H, I.tok tk, rfl, q⟩
theorem call_isXT : CallR X (.builtin "isinstance") (rIsXT X.K) := by
  intro pins s σ H xs us Q I r h
  obtain ⟨x, tp, cs, t, ws, b, rfl, hT, k, ty, e, q⟩ := h
  obtain ⟨u1, u2, rfl, r1, r2⟩ := vals2 r
  cases (show u2 = Value.ref tp from r2)
  obtain ⟨P, Z, p, hx⟩ := kit_ofE I r1 ty
  obtain ⟨_, its, rv, o, h1, h2, n, h3⟩ := (show ObjOk X.prog X.w H s.heap tp (.tup cs) from I.hok tp _ hT)
  have e3 := ClsV.all k rv
  subst e3
  obtain ⟨oc, od, dt, sl⟩ := o
  simp only at h2 h3
  subst h2 h3
  exact PySem.W.kia_tup Z I.kIn p h1 e hx fun tk => ⟨.bl b, H, I.tok tk, rfl, q⟩
end
theorem rd_isi {w : Wd} {T : String} {f : D → Bool} {ea : Ev} (k : KindF T f) {Q : VK} (h : rdR w (un1 (isD [f]) ea) σ H Q) : tCB (rIsX w.K) (tCons (rdR w ea) (tCons (tC (.ty T)) tNil)) σ H Q := by
  obtain ⟨C, F, e, R, P⟩ := h
  refine rd_opd (bindP R P fun F1 H1 e1 x v h1 R1 E1 q1 P1 => ?_)
  obtain ⟨z, hz, P2⟩ := post_ofO P1
  obtain ⟨d, hd, hf⟩ := Option.bind_eq_some_iff.mp hz
  cases hf
  obtain ⟨n, h2, h3⟩ := ty_of R1.ext (RvR.peek R1 (opd_still h1) q1 hd)
  show rIsX w.K [v, .ty T] _ Q
  refine ⟨v, .ty T, n, .type T, f d, rfl, .ty T, h2, h3 T f k, ?_⟩
  have := P2.ok' R1 (.bl _ : RvR w.K C F1 H1 e1 σ (.fz (.bool ([f].any fun f => f d))) _)
  rwa [List.any_cons, List.any_nil, Bool.or_false] at this
theorem pairedTy : ∀ Ts : List String, Paired ClsV (Ts.map V.ty) (Ts.map Value.type)
  | [] => .nil
  | T :: Ts => .cons (.ty T) (pairedTy Ts)
theorem rd_isiT {w : Wd} {T U : String} {f g : D → Bool} {ea : Ev} (k : KindF T f) (k2 : KindF U g) {Q : VK} (h : rdR w (un1 (isD [f, g]) ea) σ H Q) : tCB (rIsXT w.K) (tCons (rdR w ea) (tCons (tTup (tCons (tC (.ty T)) (tCons (tC (.ty U)) tNil))) tNil)) σ H Q := by
  obtain ⟨C, F, e, R, P⟩ := h
  refine rd_opd (bindP R P fun F1 H1 e1 x v h1 R1 E1 q1 P1 => ?_)
  obtain ⟨z, hz, P2⟩ := post_ofO P1
  obtain ⟨d, hd, hf⟩ := Option.bind_eq_some_iff.mp hz
  cases hf
  refine ⟨by show 2 ≤ sizeLine; rw [sizeLine_eq]; omega, fun p hp => ?_⟩
  have R2 := R1.growT (o := .tup [.ty T, .ty U]) hp
  have EF : Ext F1 (upd F1 p (.tup [.ty T, .ty U])) := Ext.new (R1.ext.free hp)
  have q2 := RvR.peek R2 (opd_still h1) (RvR.later (e' := e1) (H' := upd H1 p (.tup [.ty T, .ty U])) (opd_still h1) EF q1) hd
  obtain ⟨n, h2, h3⟩ := ty_of R2.ext q2
  show rIsXT w.K [v, .ref p] _ Q
  refine ⟨v, p, [.ty T, .ty U], n, [.type T, .type U], [f, g].any fun f => f d, rfl, upd_same, pairedTy [T, U], h2, kit_any (Ts := [T, U]) (.cons k (.cons k2 .nil)) h3, ?_⟩
  exact (Post.mono EF P2).ok' R2 (.bl _)
section
variable {w : Wd} {X : Cx} {a : Expr} {ea : Ev} {p p2 p3 p4 pos : Pos}
theorem ve_isi {x : Str} {n : String} {f : D → Bool} (k : KindF n f) (hw : w.K = X.K) (hg : Gl X "isinstance") (hm : X.mg "isinstance" = none) (hg2 : Gl X x) (hm2 : X.mg x = none) (hv2 : bootBuiltins x = some (.type n)) (ha : PE X a (rdR w ea))
    (hn2 : x ≠ "__name__" := by decide) (hd2 : (x == ("__debug__" : Str)) = false := by decide)
    (h1 : starEach [a, .Name x p2] X.env = (false, eval a X.env) :: starEach [.Name x p2] X.env := by rfl) (h2 : starEach [.Name x p2] X.env = (false, eval (.Name x p2) X.env) :: starEach [] X.env := by rfl)
    (hpl : (backTo pos (starEach [.Name x p2] X.env)).any (·.1) = false := by rfl) : PE X (.Call (.Name "isinstance" p) [a, .Name x p2] [] pos) (rdR w (un1 (isD [f]) ea)) :=
  pe_mono (pe_callB call_isX hg hm PyProof.Rows.boot_isinstance (pa_cons ha (pa_cons (pe_bltn hg2 hm2 hv2 (v := .ty n) rfl hn2 hd2) pa_nil h2) h1) (by decide) (by decide) h1 hpl) fun _ _ _ h => hw ▸ rd_isi k h
theorem ve_isiT {x y : Str} {n m : String} {f g : D → Bool} {j : Nat} (k : KindF n f) (k2 : KindF m g) (hw : w.K = X.K) (hg : Gl X "isinstance") (hm : X.mg "isinstance" = none) (hg2 : Gl X x) (hm2 : X.mg x = none) (hv2 : bootBuiltins x = some (.type n))
    (hg3 : Gl X y) (hm3 : X.mg y = none) (hv3 : bootBuiltins y = some (.type m)) (ha : PE X a (rdR w ea))
    (hn2 : x ≠ "__name__" := by decide) (hd2 : (x == ("__debug__" : Str)) = false := by decide) (hn3 : y ≠ "__name__" := by decide) (hd3 : (y == ("__debug__" : Str)) = false := by decide)
    (h1 : starEach [a, .Tuple [.Name x p2, .Name y p3] j p4] X.env = (false, eval a X.env) :: starEach [.Tuple [.Name x p2, .Name y p3] j p4] X.env := by rfl)
    (h2 : starEach [.Tuple [.Name x p2, .Name y p3] j p4] X.env = (false, eval (.Tuple [.Name x p2, .Name y p3] j p4) X.env) :: starEach [] X.env := by rfl)
    (h3 : starEach [.Name x p2, .Name y p3] X.env = (false, eval (.Name x p2) X.env) :: starEach [.Name y p3] X.env := by rfl) (h4 : starEach [.Name y p3] X.env = (false, eval (.Name y p3) X.env) :: starEach [] X.env := by rfl)
    (hpl : (backTo pos (starEach [.Tuple [.Name x p2, .Name y p3] j p4] X.env)).any (·.1) = false := by rfl) : PE X (.Call (.Name "isinstance" p) [a, .Tuple [.Name x p2, .Name y p3] j p4] [] pos) (rdR w (un1 (isD [f, g]) ea)) :=
  pe_mono (pe_callB call_isXT hg hm PyProof.Rows.boot_isinstance (pa_cons ha (pa_cons (pe_tup (pa_cons (pe_bltn hg2 hm2 hv2 (v := .ty n) rfl hn2 hd2) (pa_cons (pe_bltn hg3 hm3 hv3 (v := .ty m) rfl hn3 hd3) pa_nil h4) h3)) pa_nil h2) h1) (by decide) (by decide) h1 hpl) fun _ _ _ h => hw ▸ rd_isiT k k2 h
end
def sumD : D → Option Rv
  | .list ds => (intsD ds).map fun ns => .fz (.int ns.sum)
  | .tuple ds => (intsD ds).map fun ns => .fz (.int ns.sum)
  | _ => none
section
variable {X : Cx} {pins : List (Addr × Obj)} {s : Shared}
end
mutual
theorem plain_alike : ∀ d : D, PySem.W.alike d d = true → plainD d = true
  | .none, _ => by unfold plainD; rfl
  | .bool _, _ => by unfold plainD; rfl
  | .int _, _ => by unfold plainD; rfl
  | .str _, _ => by unfold plainD; rfl
  | .list ds, h => by unfold plainD; unfold PySem.W.alike at h; exact plainA_alike ds h
  | .tuple ds, h => by unfold plainD; unfold PySem.W.alike at h; exact plainA_alike ds h
  | .dict _, h => by unfold PySem.W.alike at h; cases h
theorem plainA_alike : ∀ ds : List D, PySem.W.alikeAll ds ds = true → plainA ds = true
  | [], _ => by unfold plainA; rfl
  | d :: ds, h => by
    unfold PySem.W.alikeAll at h
    rw [Bool.and_eq_true] at h
    unfold plainA
    rw [plain_alike d h.1, plainA_alike ds h.2]; rfl
end
end VI
set_option Elab.async false
set_option linter.all false
set_option maxRecDepth 100000
set_option maxHeartbeats 4000000
namespace VI
open PySem PySem.Spec PyProof.Rows L2
variable {K : PySem.W.Frag} {C : Cf} {F H : Hp} {e e' : Env} {σ : L2.St}
end VI
set_option Elab.async false
set_option linter.all false
set_option maxRecDepth 100000
set_option maxHeartbeats 4000000
namespace VI
open PySem PySem.Spec PyProof.Rows L2
variable {K : PySem.W.Frag} {C : Cf} {F H : Hp} {e e' : Env} {σ : L2.St}
/-- a list or a tuple -/
inductive Sk where
  | l | t
def SqK (K : PySem.W.Frag) (H : Hp) : Sk → Addr → List V → Prop
  | .l => SqL K H
  | .t => SqT K H
def IsSq (h : Heap) : Sk → Addr → Array Value → Prop
  | .l => h.IsList
  | .t => h.IsTuple
def IterAt (h : Heap) : Sk → Addr → Addr → Nat → Prop
  | .l => h.IsListIter
  | .t => h.IsTupleIter
def itObj : Sk → Addr → Obj
  | .l, a => { cls := .type "list_iterator", data := .fields #[.ref a, .int 0 0] }
  | .t, a => { cls := .type "tuple_iterator", data := .fields #[.ref a, .int 0 0] }
theorem begins_sq (k : Sk) (a : Addr) (xs : Array Value) : Begins (.ref a) (itObj k a) (fun h => IsSq h k a xs) := by
  cases k with
  | l => exact begins_list a xs
  | t => exact begins_tuple a xs
theorem draws_sq {prog : Program} {w : World} {A : Around} (hh : A.handled = none) (k : Sk) (it a : Addr) (hne : a ≠ it) (xs : Array Value) :
    Draws prog w A it [it, a] xs.size (fun i v => xs[i]? = some v) (fun i h => IterAt h k it a i ∧ IsSq h k a xs) := by
  cases k with
  | l => exact Draws.list hh it a hne xs
  | t => exact Draws.tuple hh it a hne xs
theorem iter0 (k : Sk) {h : Heap} {it a : Addr} (e : h.get? it = some (itObj k a)) : IterAt h k it a 0 := by
  cases k with
  | l => exact ⟨_, e, rfl, rfl⟩
  | t => exact ⟨_, e, rfl, rfl⟩
theorem IterAt.keep {k : Sk} {h h' : Heap} {it a : Addr} {i : Nat} (x : IterAt h k it a i) (q : ∀ o, h.get? it = some o → h'.get? it = some o) : IterAt h' k it a i := by
  cases k with
  | l => exact Heap.IsListIter.at x q
  | t => exact Heap.IsTupleIter.at x q
theorem IterAt.obj {k : Sk} {h : Heap} {it a : Addr} {i : Nat} (x : IterAt h k it a i) : ∃ o, h.get? it = some o ∧ ∀ v, o.data ≠ .cell v := by
  cases k with
  | l => obtain ⟨o, h1, _, h3⟩ := x; exact ⟨o, h1, fun v z => by rw [h3] at z; cases z⟩
  | t => obtain ⟨o, h1, _, h3⟩ := x; exact ⟨o, h1, fun v z => by rw [h3] at z; cases z⟩
section
variable {X : Cx} {pins : List (Addr × Obj)} {s : Shared} {k : Sk} {a : Addr} {xs ys : List V}
theorem sq_at (I : Inv X pins σ H s) (h : SqK X.K H k a xs) : ∃ its : List Value, Vals xs its ∧ IsSq s.heap k a its.toArray ∧ xs.length ≤ sizeLine ∧ a < s.heap.objs.size := by
  cases k with
  | l => obtain ⟨its, r, p, z⟩ := I.list h; exact ⟨its, r, p.isList, z, p.lt⟩
  | t => obtain ⟨its, r, p, z⟩ := I.tuple h; exact ⟨its, r, p, z, by obtain ⟨o, ho, _⟩ := p; exact Heap.lt_size ho⟩
theorem sq_one (I : Inv X pins σ H s) (h : SqK X.K H k a xs) (h' : SqK X.K H k a ys) : xs = ys := by
  cases k with
  | l => exact I.list_inj h h'
  | t => exact I.tuple_inj h h'
end
theorem IsSq.cls {k : Sk} {h : Heap} {a : Addr} {xs : Array Value} (x : IsSq h k a xs) : ∃ o, h.get? a = some o ∧ (o.cls = .type "list" ∨ o.cls = .type "tuple") := by
  cases k with
  | l => obtain ⟨o, q, q2, _⟩ := x; exact ⟨o, q, .inl q2⟩
  | t => obtain ⟨o, q, q2, _⟩ := x; exact ⟨o, q, .inr q2⟩
theorem IsSq.apart {k : Sk} {h : Heap} {a b : Addr} {xs : Array Value} {o : Obj} (x : IsSq h k a xs) (e : h.get? b = some o) (n : o.cls ≠ .type "list" ∧ o.cls ≠ .type "tuple") : a ≠ b := fun z => by
  obtain ⟨o', q, q2⟩ := x.cls
  rw [z, e] at q; cases q
  exact q2.elim n.1 n.2
theorem IterAt.apart {k k2 : Sk} {h : Heap} {it a b : Addr} {i : Nat} {xs : Array Value} (x : IterAt h k it a i) (y : IsSq h k2 b xs) : b ≠ it := by
  cases k with
  | l => obtain ⟨o, h1, h2, h3⟩ := x; exact y.apart h1 (by rw [h2]; simp)
  | t => obtain ⟨o, h1, h2, h3⟩ := x; exact y.apart h1 (by rw [h2]; simp)
def IteK (K : PySem.W.Frag) (k : Sk) (a : Addr) : It :=
  ⟨fun i H => ∃ (xs : List V) (x : V), SqK K H k a xs ∧ xs[i]? = some x, fun i H v H' => ∃ T x, v = .ref T ∧ H T = none ∧ H' = upd H T (.tup [.int (i : Nat), x]) ∧ ∀ xs, SqK K H k a xs → xs[i]? = some x,
    fun i H => ∃ xs : List V, SqK K H k a xs ∧ xs.length = i⟩
theorem turn_enumK {P : Program} {w : World} {K : PySem.W.Frag} {elts : List Expr} {kk : Nat} {tpos : Pos} (k : Sk) (a e it : Addr) :
    Turn P w K (.Tuple elts kk tpos) (IteK K k a) [e, it] e (fun i h => (∃ old, IsEnum h e it (0 + (i : Int)) old) ∧ IterAt h k it a i ∧ e ≠ it) where
  mem := List.mem_cons_self
  obj := fun i h st b hb => by
    obtain ⟨⟨old, he⟩, hi, _⟩ := st
    rcases List.mem_cons.mp hb with z | z
    · subst z; exact ⟨_, he, fun v q => by cases q⟩
    · rw [List.mem_singleton.mp z]; exact hi.obj
  keep := fun i h h' st q => let ⟨⟨old, he⟩, hi, hne⟩ := st; ⟨⟨old, q e List.mem_cons_self _ he⟩, hi.keep (q it (List.mem_cons_of_mem _ List.mem_cons_self)), hne⟩
  item := by
    intro X hP hw hK hc i pins s σ H E I hf st hg
    subst hP hw hK
    obtain ⟨he, hit, hne⟩ := st
    obtain ⟨xs, x, hq, hx⟩ := hg
    obtain ⟨its, rv, p, hz, hal⟩ := sq_at I hq
    obtain ⟨u, hu, ru⟩ := rv.get hx
    have hel : e < s.heap.objs.size := by obtain ⟨_, q⟩ := he; exact Heap.lt_size q
    have hil : it < s.heap.objs.size := by obtain ⟨_, q, _⟩ := hit.obj; exact Heap.lt_size q
    have f1 := hf it (List.mem_cons_of_mem _ List.mem_cons_self)
    have f0 := hf e List.mem_cons_self
    have key : a ≠ it ∧ a ≠ e := ⟨hit.apart p, by obtain ⟨old, he⟩ := he; exact p.apart he (by simp)⟩
    have W := GoesN.enumFrom (prog := X.prog) (w := X.w) (A := X.A) (elts := elts) (x1 := kk) (pos := tpos) 0 (draws_sq (A := X.A.in1) (I.ok.hd hc) k it a key.1 its.toArray) e hne
      (fun z => by rcases List.mem_cons.mp z with z | z; exact hne z; exact key.2 (List.mem_singleton.mp z).symm) List.mem_cons_self
    have hlt : i < its.toArray.size := by
      rw [List.size_toArray]; exact (List.getElem?_eq_some_iff.mp hu).1
    refine W.goes i s _ E hlt ⟨he, hit, p⟩ fun v h' tk hY st' hk htk => ?_
    obtain ⟨T, t, y, rfl, hT, hy, hTup⟩ := hY
    have hy : its[i]? = some y := by simpa using hy
    rw [hu] at hy; cases hy
    have hT0 : H T = none := I.hok.fresh hT
    obtain ⟨o, o1, o2, n, o3⟩ := hTup
    have new : ObjOk X.prog X.w (upd H T (.tup [.int (i : Nat), x])) h' T (.tup [.int (i : Nat), x]) :=
      ⟨by show 2 ≤ sizeLine; decide, [.int (0 + (i : Int)) t, u], .cons ⟨t, by rw [Int.zero_add]⟩ (.cons ru .nil), ⟨o, o1, o2, n, o3⟩⟩
    have I1 : Inv X pins σ (upd H T (.tup [.int (i : Nat), x])) { s with heap := h', toks := tk } := I.turnedNew (ch := [e, it]) hk hf hT new
    refine ⟨.ref T, _, I1, rfl, ⟨T, x, rfl, hT0, rfl, fun ys hys => by rw [sq_one I hys hq]; exact hx⟩, ⟨st'.1, st'.2.1, hne⟩, fun b hb => ?_⟩
    have hb' : b < s.heap.objs.size := by
      rcases List.mem_cons.mp hb with z | z
      · rw [z]; exact hel
      · rw [List.mem_singleton.mp z]; exact hil
    rw [upd_ne (Nat.ne_of_lt (Nat.lt_of_lt_of_le hb' hT))]
    exact (hf b hb).1
  done := by
    intro X hP hw hK hc i pins s σ H E I hf st hg
    subst hP hw hK
    obtain ⟨he, hit, hne⟩ := st
    obtain ⟨xs, hq, hx⟩ := hg
    obtain ⟨its, rv, p, hz, hal⟩ := sq_at I hq
    have key : a ≠ it ∧ a ≠ e := ⟨hit.apart p, by obtain ⟨old, he⟩ := he; exact p.apart he (by simp)⟩
    have W := GoesN.enumFrom (prog := X.prog) (w := X.w) (A := X.A) (elts := elts) (x1 := kk) (pos := tpos) 0 (draws_sq (A := X.A.in1) (I.ok.hd hc) k it a key.1 its.toArray) e hne
      (fun z => by rcases List.mem_cons.mp z with z | z; exact hne z; exact key.2 (List.mem_singleton.mp z).symm) List.mem_cons_self
    have hn : its.toArray.size = i := by rw [List.size_toArray, ← rv.length]; exact hx
    exact W.stops s _ E (by rw [hn]; exact ⟨he, hit, p⟩) fun h' tk hk htk => I.turnedL (t' := tk) (ch := [e, it]) hk hf
  self := fun A i s Q E st h => let ⟨⟨_, he⟩, _⟩ := st; wpAny_pyIter_enum he h
theorem walk_enumK {k : Sk} {a : Addr} {xs : List V} : Walk (IteK K k a) xs.length (fun H => SqK K H k a xs) (YPair (fun i => some (.int (i : Nat))) (fun i => xs[i]?)) := by
  refine ⟨fun i _ hi q => ⟨xs, xs[i], q, by simp [hi]⟩, fun _ q => ⟨xs, q, rfl⟩, fun i H v H' _ q y => ?_⟩
  obtain ⟨T, x, h1, h2, h3, h4⟩ := y
  exact ⟨T, .int (i : Nat), x, h1, h2, h3, rfl, h4 xs q⟩
theorem meets_enumT (t : Addr) (xs : Array Value) :
    Meets (Builtin.«enumerate.__new__» ⟨[.type "enumerate", .ref t], []⟩) (fun _ R s => s.heap.IsTuple t xs ∧
      R (.ok (.ret (.ref (s.heap.push (itObj .t t)).objs.size))) { s with heap := (s.heap.push (itObj .t t)).push { cls := .type "enumerate", data := .fields #[.none, .bool false, .ref s.heap.objs.size, rawInt 0, .none, .none] } }) :=
  .of_wp fun prog w A R s h => by
    obtain ⟨hp, g, d, tk, os⟩ := s
    obtain ⟨⟨ob, hl, hcl, n, hdt⟩, h⟩ := h
    obtain ⟨c, dct, dt, sl⟩ := ob
    simp only at hcl hdt
    subst hcl hdt
    have hsub := sub_enumerate
    have hT : Heap.IsTuple (Shared.heap ⟨hp, g, d, tk, os⟩) t xs := ⟨_, hl, rfl, n, rfl⟩
    wp_walk using AutoSeq1.wpAny_loadPart' hl
    refine wpAny_stack_any (fun st => wpAny_pure ?_)
    split
    · rename_i c _ _ _ _ _
      cases (c == Value.type "enumerate")
      · wp_walk using AutoSeq1.wpAny_loadPart' hl, wpAny_pyIter_tuple hT
        exact ⟨_, rfl, h⟩
      · wp_walk using AutoSeq1.wpAny_loadPart' hl, wpAny_pyIter_tuple hT
        exact ⟨_, rfl, h⟩
    · wp_walk using AutoSeq1.wpAny_loadPart' hl, wpAny_pyIter_tuple hT
      exact ⟨_, rfl, h⟩
theorem call_enumT {prog : Program} {w : World} {A : Around} {E : Value → Shared → Prop} {s : Shared} {t : Addr} {xs : Array Value} {Q : Value → Shared → Prop} (hT : s.heap.IsTuple t xs)
    (h : ∀ h', IsEnum h' (s.heap.objs.size + 1) s.heap.objs.size 0 .none → h'.IsTupleIter s.heap.objs.size t 0 → (∀ b o, s.heap.get? b = some o → h'.get? b = some o) → Q (.ref (s.heap.objs.size + 1)) { s with heap := h' }) :
    wpAny (model prog w) A (call (.type "enumerate") [.ref t]) Q E s := by
  refine callType_new F.called_enumerate (by decide) (F.typeCall_enumerate_1 _) (F.newCall_enumerate_1 _) (fun obj => F.args_object_init_2 obj _) F.entry_enumerate_new (meets_enumT t xs) ⟨hT, ?_⟩
  have hz : (s.heap.push (itObj .t t)).objs.size = s.heap.objs.size + 1 := Heap.size_push ..
  show _ ∧ _
  rw [hz]
  have he : IsEnum ((s.heap.push (itObj .t t)).push { cls := .type "enumerate", data := .fields #[.none, .bool false, .ref s.heap.objs.size, rawInt 0, .none, .none] }) (s.heap.objs.size + 1) s.heap.objs.size 0 .none := by
    have := Heap.get?_push_size (s.heap.push (itObj .t t)) (o := { cls := .type "enumerate", data := .fields #[.none, .bool false, .ref s.heap.objs.size, rawInt 0, .none, .none] }) rfl
    rwa [hz] at this
  exact ⟨⟨_, he, rfl⟩, h _ he ⟨_, Heap.get?_push_of_some _ (Heap.get?_push_size _ rfl), rfl, rfl⟩ fun b o x => Heap.get?_push_of_some _ (Heap.get?_push_of_some _ x)⟩
def iEnumK (K : PySem.W.Frag) (ta : TA) : TI := fun σ H R => ta σ H fun vs H1 => ∃ k a xs, vs = [.ref a] ∧ SqK K H1 k a xs ∧ R (IteK K k a) H1
theorem pi_enumK {X : Cx} {ex : Expr} {ta : TA} {p pos tpos : Pos} {elts : List Expr} {kk : Nat} (hg : Gl X "enumerate") (hm : X.mg "enumerate" = none) (ha : PA X [ex] ta) (hs : starEach [ex] X.env = [(false, eval ex X.env)] := by rfl) :
    PI X (.Tuple elts kk tpos) (.Call (.Name "enumerate" p) [ex] [] pos) (iEnumK X.K ta) := by
  refine ⟨fun pins s σ H R I h => ?_⟩
  refine Call_ (ld_blt I hg hm boot_enumerate (PyProof.Rows.callWith_type1 (thn (ha.run pos pins s σ H _ I h) fun us s1 ⟨vs, H1, I1, r1, q1⟩ => ?_) hs rfl))
  obtain ⟨k, a, xs, rfl, hq, q⟩ := q1
  rw [Vals.ref1 r1]
  obtain ⟨its, rv, p', hz, hal⟩ := sq_at I1 hq
  have fin : ∀ h', IsEnum h' (s1.heap.objs.size + 1) s1.heap.objs.size 0 .none → IterAt h' k s1.heap.objs.size a 0 → (∀ b o, s1.heap.get? b = some o → h'.get? b = some o) →
      wpAny (model X.prog X.w) X.A (pyIter (.ref (s1.heap.objs.size + 1))) (PIE X pins σ (.Tuple elts kk tpos) R) X.xe { s1 with heap := h' } := fun h' he hit hk => by
    refine wpAny_pyIter_enum he ?_
    refine ⟨s1.heap.objs.size + 1, [s1.heap.objs.size + 1, s1.heap.objs.size], _, _, H1, rfl, I1.kept (t' := s1.toks) hk, turn_enumK k a (s1.heap.objs.size + 1) s1.heap.objs.size, ⟨⟨.none, he⟩, hit, Nat.succ_ne_self _⟩, fun b hb => ?_, q⟩
    have hle : s1.heap.objs.size ≤ b := by
      rcases List.mem_cons.mp hb with z | z
      · rw [z]; exact Nat.le_succ _
      · rw [List.mem_singleton.mp z]; exact Nat.le_refl _
    exact I1.fpOk hle (I1.hok.fresh hle)
  cases k with
  | l => exact call_enumerate_list p' fun h' he hit hsz hk => fin h' he hit hk
  | t => exact call_enumT p' fun h' he hit hk => fin h' he hit hk
end VI
set_option Elab.async false
set_option linter.all false
set_option maxRecDepth 100000
set_option maxHeartbeats 4000000
namespace VI
open PySem PySem.Spec PyProof.Rows L2
variable {K : PySem.W.Frag} {C : Cf} {F H : Hp} {e e' : Env} {σ : L2.St}
structure ZApart (z TI TO i1 i2 a b : Addr) : Prop where
  aTO : a ≠ TO
  bTO : b ≠ TO
  TIz : TI ≠ z
  TOz : TO ≠ z
  TITO : TI ≠ TO
  TIi1 : TI ≠ i1
  TIi2 : TI ≠ i2
  zi1 : z ≠ i1
  zi2 : z ≠ i2
  TOi1 : TO ≠ i1
  TOi2 : TO ≠ i2
  i12 : i1 ≠ i2
def ItzK (K : PySem.W.Frag) (k1 k2 : Sk) (a b : Addr) : It :=
  ⟨fun i H => ∃ (xs ys : List V) (x y : V), SqK K H k1 a xs ∧ SqK K H k2 b ys ∧ xs[i]? = some x ∧ ys[i]? = some y,
    fun i H v H' => ∃ T x y, v = .ref T ∧ H T = none ∧ H' = upd H T (.tup [x, y]) ∧ (∀ xs, SqK K H k1 a xs → xs[i]? = some x) ∧ ∀ ys, SqK K H k2 b ys → ys[i]? = some y,
    fun i H => ∃ xs ys : List V, SqK K H k1 a xs ∧ SqK K H k2 b ys ∧ min xs.length ys.length = i⟩
theorem five {c z TI TO i1 i2 : Addr} (h : c ∈ [z, TI, TO, i1, i2]) : c = z ∨ c = TI ∨ c = TO ∨ c = i1 ∨ c = i2 := by simpa using h
theorem turn_zipK {P : Program} {w : World} {K : PySem.W.Frag} {elts : List Expr} {kk : Nat} {tpos : Pos} {k1 k2 : Sk} {a b z TI TO i1 i2 : Addr} (D : ZApart z TI TO i1 i2 a b) :
    Turn P w K (.Tuple elts kk tpos) (ItzK K k1 k2 a b) [z, TI, TO, i1, i2] z (fun i h => IsZip h z TI TO .none ∧ IsTupOf2 h TI (.ref i1) (.ref i2) ∧ (∃ x y, IsTupOf2 h TO x y) ∧ IterAt h k1 i1 a i ∧ IterAt h k2 i2 b i) := by
  have wr : ∀ c, c ∉ [z, TI, TO, i1, i2] → c ∉ [z, TO, i1, i2] := fun c hc q => hc (by
    rcases List.mem_cons.mp q with q | q
    · simp [q]
    · rcases List.mem_cons.mp q with q | q
      · simp [q]
      · rcases List.mem_cons.mp q with q | q
        · simp [q]
        · simp [List.mem_singleton.mp q])
  have mk : ∀ (X : Cx), X.calm = true → ∀ {pins : List (Addr × Obj)} {s : Shared} {σ : L2.St} {H : Hp} {its its2 : Array Value} {i : Nat}, Inv X pins σ H s → IsZip s.heap z TI TO .none → (∃ x y, IsTupOf2 s.heap TO x y) → IterAt s.heap k1 i1 a i → IterAt s.heap k2 i2 b i →
      IsSq s.heap k1 a its → IsSq s.heap k2 b its2 → GoesN X.prog X.w X.A (.Tuple elts kk tpos) z (z :: TI :: TO :: ([i1, a] ++ [i2, b])) [z, TO, i1, i2] (min its.size its2.size)
        (fun i h₀ v h => ∃ T x y, v = .ref T ∧ h₀.objs.size ≤ T ∧ its[i]? = some x ∧ its2[i]? = some y ∧ h.IsTuple T #[x, y])
        (fun i h => IsZip h z TI TO .none ∧ IsTupOf2 h TI (.ref i1) (.ref i2) ∧ (∃ a1 a2, IsTupOf2 h TO a1 a2) ∧ (IterAt h k1 i1 a i ∧ IsSq h k1 a its) ∧ (IterAt h k2 i2 b i ∧ IsSq h k2 b its2)) := by
    intro X hc pins s σ H its its2 i I hz hTO h1 h2 p1 p2
    have az : a ≠ z := p1.apart hz (by simp)
    have bz : b ≠ z := p2.apart hz (by simp)
    have a1 : a ≠ i1 := h1.apart p1
    have a2 : a ≠ i2 := h2.apart p1
    have b1 : b ≠ i1 := h1.apart p2
    have b2 : b ≠ i2 := h2.apart p2
    have S : ZipSep2 z TI TO i1 i2 [i1, a] [i2, b] :=
      { TIz := D.TIz, TOz := D.TOz, TITO := D.TITO, TIi1 := D.TIi1, TIi2 := D.TIi2, mem1 := List.mem_cons_self, mem2 := List.mem_cons_self,
        zf1 := fun q => by rcases List.mem_cons.mp q with q | q; exact D.zi1 q; exact az (List.mem_singleton.mp q).symm,
        Tf1 := fun q => by rcases List.mem_cons.mp q with q | q; exact D.TOi1 q; exact D.aTO (List.mem_singleton.mp q).symm,
        zf2 := fun q => by rcases List.mem_cons.mp q with q | q; exact D.zi2 q; exact bz (List.mem_singleton.mp q).symm,
        Tf2 := fun q => by rcases List.mem_cons.mp q with q | q; exact D.TOi2 q; exact D.bTO (List.mem_singleton.mp q).symm,
        sep1_2 := fun q => by rcases List.mem_cons.mp q with q | q; exact D.i12 q; exact b1 (List.mem_singleton.mp q).symm,
        sep2_1 := fun q => by rcases List.mem_cons.mp q with q | q; exact D.i12 q.symm; exact a2 (List.mem_singleton.mp q).symm }
    exact GoesN.zip2 S (draws_sq (A := X.A.in1) (I.ok.hd hc) k1 i1 a a1 its) (draws_sq (A := X.A.in1) (I.ok.hd hc) k2 i2 b b2 its2)
  refine ⟨List.mem_cons_self, fun i h st c hc => ?_, fun i h h' st q => ?_, ?_, ?_, fun A i s Q E st h => wpAny_pyIter_zip st.1 h⟩
  · obtain ⟨hz, hTI, ⟨x, y, hTO⟩, h1, h2⟩ := st
    rcases five hc with q | q | q | q | q <;> subst q
    · exact ⟨_, hz, fun v q => by cases q⟩
    · exact ⟨_, hTI, fun v q => by cases q⟩
    · exact ⟨_, hTO, fun v q => by cases q⟩
    · exact h1.obj
    · exact h2.obj
  · obtain ⟨hz, hTI, ⟨x, y, hTO⟩, h1, h2⟩ := st
    exact ⟨q _ (by simp) _ hz, q _ (by simp) _ hTI, ⟨x, y, q _ (by simp) _ hTO⟩, h1.keep (q _ (by simp)), h2.keep (q _ (by simp))⟩
  · intro X hP hw hK hc i pins s σ H E I hf st hg
    subst hP hw hK
    obtain ⟨hz, hTI, hTO, h1, h2⟩ := st
    obtain ⟨xs, ys, x, y, hqx, hqy, hx, hy⟩ := hg
    obtain ⟨its, rv, p, _, la⟩ := sq_at I hqx
    obtain ⟨its2, rv2, p2, _, lb⟩ := sq_at I hqy
    obtain ⟨u, hu, ru⟩ := rv.get hx
    obtain ⟨u2, hu2, ru2⟩ := rv2.get hy
    have W := mk X hc I hz hTO h1 h2 p p2
    have hlt : i < min its.toArray.size its2.toArray.size := by
      have z1 := (List.getElem?_eq_some_iff.mp hu).1
      have z2 := (List.getElem?_eq_some_iff.mp hu2).1
      rw [List.size_toArray, List.size_toArray]; omega
    refine W.goes i s _ E hlt ⟨hz, hTI, hTO, ⟨h1, p⟩, ⟨h2, p2⟩⟩ fun v h' tk hY st' hk htk => ?_
    obtain ⟨T, v1, v2, rfl, hT, hv1, hv2, hTup⟩ := hY
    have hv1 : its[i]? = some v1 := by simpa using hv1
    have hv2 : its2[i]? = some v2 := by simpa using hv2
    rw [hu] at hv1; cases hv1
    rw [hu2] at hv2; cases hv2
    have hT0 : H T = none := I.hok.fresh hT
    obtain ⟨o, o1, o2, n, o3⟩ := hTup
    have new : ObjOk X.prog X.w (upd H T (.tup [x, y])) h' T (.tup [x, y]) := ⟨by show 2 ≤ sizeLine; decide, [u, u2], .cons ru (.cons ru2 .nil), ⟨o, o1, o2, n, o3⟩⟩
    have I1 : Inv X pins σ (upd H T (.tup [x, y])) { s with heap := h', toks := tk } := I.turnedNew (ch := [z, TI, TO, i1, i2]) (fun c o' hb q => hk c o' (wr c hb) q) hf hT new
    refine ⟨.ref T, _, I1, rfl, ⟨T, x, y, rfl, hT0, rfl, fun l hl => by rw [sq_one I hl hqx]; exact hx, fun l hl => by rw [sq_one I hl hqy]; exact hy⟩, ⟨st'.1, st'.2.1, st'.2.2.1, st'.2.2.2.1.1, st'.2.2.2.2.1⟩, fun c hcm => ?_⟩
    have hlt : c < s.heap.objs.size := by
      obtain ⟨t1, t2, hTO⟩ := hTO
      rcases five hcm with q | q | q | q | q <;> subst q
      · exact Heap.lt_size hz
      · exact Heap.lt_size hTI
      · exact Heap.lt_size hTO
      · obtain ⟨_, e1, _⟩ := h1.obj; exact Heap.lt_size e1
      · obtain ⟨_, e1, _⟩ := h2.obj; exact Heap.lt_size e1
    rw [upd_ne (Nat.ne_of_lt (Nat.lt_of_lt_of_le hlt hT))]
    exact (hf c hcm).1
  · intro X hP hw hK hc i pins s σ H E I hf st hg
    subst hP hw hK
    obtain ⟨hz, hTI, hTO, h1, h2⟩ := st
    obtain ⟨xs, ys, hqx, hqy, hn⟩ := hg
    obtain ⟨its, rv, p, _, la⟩ := sq_at I hqx
    obtain ⟨its2, rv2, p2, _, lb⟩ := sq_at I hqy
    have W := mk X hc I hz hTO h1 h2 p p2
    have hn' : min its.toArray.size its2.toArray.size = i := by rw [List.size_toArray, List.size_toArray, ← rv.length, ← rv2.length]; exact hn
    exact W.stops s _ E (by rw [hn']; exact ⟨hz, hTI, hTO, ⟨h1, p⟩, ⟨h2, p2⟩⟩) fun h' tk hk htk => I.turnedL (t' := tk) (ch := [z, TI, TO, i1, i2]) (fun c o' hb q => hk c o' (wr c hb) q) hf
theorem walk_zipK {k1 k2 : Sk} {a b : Addr} {xs ys : List V} : Walk (ItzK K k1 k2 a b) (min xs.length ys.length) (fun H => SqK K H k1 a xs ∧ SqK K H k2 b ys) (YPair (fun i => xs[i]?) (fun i => ys[i]?)) := by
  refine ⟨fun i _ hi q => ?_, fun _ q => ⟨xs, ys, q.1, q.2, rfl⟩, fun i H v H' _ q y => ?_⟩
  · have z1 : i < xs.length := Nat.lt_of_lt_of_le hi (Nat.min_le_left _ _)
    have z2 : i < ys.length := Nat.lt_of_lt_of_le hi (Nat.min_le_right _ _)
    exact ⟨xs, ys, xs[i], ys[i], q.1, q.2, by simp [z1], by simp [z2]⟩
  · obtain ⟨T, x, z, h1, h2, h3, h4, h5⟩ := y
    exact ⟨T, x, z, h1, h2, h3, h4 xs q.1, h5 ys q.2⟩
def iZipK (K : PySem.W.Frag) (ta : TA) : TI := fun σ H R => ta σ H fun vs H1 => ∃ k1 k2 a b xs ys, vs = [.ref a, .ref b] ∧ SqK K H1 k1 a xs ∧ SqK K H1 k2 b ys ∧ R (ItzK K k1 k2 a b) H1
theorem pi_zipK {X : Cx} {ex e2 : Expr} {ta : TA} {p pos tpos : Pos} {elts : List Expr} {kk : Nat} (hg : Gl X "zip") (hm : X.mg "zip" = none) (ha : PA X [ex, e2] ta)
    (hs : starEach [ex, e2] X.env = (false, eval ex X.env) :: starEach [e2] X.env := by rfl) (hpl : (backTo pos (starEach [e2] X.env)).any (·.1) = false := by rfl) :
    PI X (.Tuple elts kk tpos) (.Call (.Name "zip" p) [ex, e2] [] pos) (iZipK X.K ta) := by
  refine ⟨fun pins s σ H R I h => ?_⟩
  refine Call_ (ld_blt I hg hm PyProof.Rows.boot_zip (PyProof.Rows.callWith_type1 (thn (ha.run pos pins s σ H _ I h) fun us s1 ⟨vs, H1, I1, r1, q1⟩ => ?_) hs hpl))
  obtain ⟨k1, k2, a, b, xs, ys, rfl, hqx, hqy, q⟩ := q1
  obtain ⟨u1, u2, rfl, hr1, hr2⟩ := vals2 r1
  cases hr1
  cases hr2
  obtain ⟨its, rv, p1, _, la⟩ := sq_at I1 hqx
  obtain ⟨its2, rv2, p2, _, lb⟩ := sq_at I1 hqy
  refine zip_begins2 (begins_sq k1 a its.toArray) (begins_sq k2 b its2.toArray) p1 p2 fun h' hz hTI hTO h1 h2 hsz hk => wpAny_pyIter_zip hz ?_
  have D : ZApart (s1.heap.objs.size + 4) (s1.heap.objs.size + 2) (s1.heap.objs.size + 3) s1.heap.objs.size (s1.heap.objs.size + 1) a b := by
    constructor
    · exact Nat.ne_of_lt (Nat.lt_of_lt_of_le la (Nat.le_add_right _ 3))
    · exact Nat.ne_of_lt (Nat.lt_of_lt_of_le lb (Nat.le_add_right _ 3))
    all_goals (refine PySem.W.neN ?_; omega)
  refine ⟨s1.heap.objs.size + 4, [s1.heap.objs.size + 4, s1.heap.objs.size + 2, s1.heap.objs.size + 3, s1.heap.objs.size, s1.heap.objs.size + 1], _, _, H1, rfl, I1.kept (t' := s1.toks) hk, turn_zipK D, ⟨hz, hTI, ⟨_, _, hTO⟩, iter0 k1 h1, iter0 k2 h2⟩, fun c hcm => ?_, q⟩
  have hle : s1.heap.objs.size ≤ c := by
    rcases five hcm with z | z | z | z | z <;> rw [z] <;> first | exact Nat.le_refl _ | exact Nat.le_add_right _ _
  exact I1.fpOk hle (I1.hok.fresh hle)
end VI
set_option Elab.async false
set_option linter.all false
set_option maxRecDepth 100000
set_option maxHeartbeats 4000000
namespace VI
open PySem PySem.Spec PyProof.Rows L2
variable {K : PySem.W.Frag} {C : Cf} {F H : Hp} {e e' : Env} {σ : L2.St}
def heldR (K : PySem.W.Frag) (C : Cf) (F H : Hp) (e1 : Env) (σ : L2.St) (s : Src) (v : V) : Prop := ∃ k a xs C', v = V.ref a ∧ Rp K C' F H e1 σ ∧ Back K C C' s.lend ∧ DpAll K F xs s.items ∧ ∀ F2 H2 e2 σ2, Rp K C' F2 H2 e2 σ2 → Ext F F2 → SqK K H2 k a xs
theorem src_held {r : Rv} {v : V} {s : Src} {e1 : Env} (R : Rp K C F H e σ) (hs : r.still = true) (q : RvR K C F H e σ r v) (h : srcR r e = .ok s e1) : heldR K C F H e1 σ s v := by
  have lst : ∀ {ds : List D}, Dp K F v (.list ds) → heldR K C F H e σ ⟨ds, []⟩ v := fun {ds} z => by
    cases z with
    | lst h1 h2 => exact ⟨.l, _, _, C, rfl, R, back_nil, h2, fun F2 H2 e2 σ2 R2 E2 => .inl (ext_rd (E2.trans R2.ext) h1)⟩
  have tup : ∀ {ds : List D}, Dp K F v (.tuple ds) → heldR K C F H e σ ⟨ds, []⟩ v := fun {ds} z => by
    cases z with
    | tup h1 h2 => exact ⟨.t, _, _, C, rfl, R, back_nil, h2, fun F2 H2 e2 σ2 R2 E2 => ext_t (E2.trans R2.ext) h1⟩
  cases r with
  | fresh ds => cases hs
  | fz d =>
    cases d with
    | list ds => cases h; exact lst q
    | tuple ds => cases h; exact tup q
    | _ => cases h
  | bor i =>
    have h' : σ[i]? = some (some v) := q
    unfold srcR at h
    simp only at h
    split at h
    · rename_i ds hd
      obtain ⟨u, hu, z⟩ := R.sl _ _ hd
      rw [h'] at hu; cases hu; cases h
      exact lst z
    · rename_i ds hd
      obtain ⟨u, hu, z⟩ := R.sl _ _ hd
      rw [h'] at hu; cases hu; cases h
      exact tup z
    · rename_i ds hd
      obtain ⟨u, hu, vs, rfl, h1, h2, h3⟩ := R.sl _ _ hd
      rw [h'] at hu; cases hu; cases h
      refine ⟨.l, _, _, C, rfl, R, back_nil, h2, fun F2 H2 e2 σ2 R2 E2 => SqL.of ?_⟩
      rw [(R2.frm _ (R.ml _ h3)).1, ← (R.frm _ (R.ml _ h3)).1]; exact h1
    · rename_i ds hd
      obtain ⟨u, hu, p, vs, rfl, h1, h2, h3, h4⟩ := R.sl _ _ hd
      rw [h'] at hu; cases hu; cases h
      obtain ⟨R1, B⟩ := R.lend hd h' h1 h2 h3 h4
      refine ⟨.l, _, _, _, rfl, R1, B, h2, fun F2 H2 e2 σ2 R2 E2 => SqL.of ?_⟩
      rw [(R2.frm p (.inr rfl)).1]; exact h1
    · cases h
theorem unlend_cons (i : Nat) (l : List Nat) (e : Env) : unlend (i :: l) e = unlend l (unlend [i] e) := by
  cases h : e[i]? with
  | none => simp only [unlend, h]
  | some o =>
    cases o with
    | none => simp only [unlend, h]
    | some x => cases x <;> simp only [unlend, h]
theorem unlend_app (l m : List Nat) (e : Env) : unlend (l ++ m) e = unlend m (unlend l e) := by
  induction l generalizing e with
  | nil => rfl
  | cons i l ih => rw [List.cons_append, unlend_cons, ih, unlend_cons i l]
theorem Back.trans {C1 C2 : Cf} {l m : List Nat} (a : Back K C C1 l) (b : Back K C1 C2 m) : Back K C C2 (m ++ l) :=
  ⟨fun F2 H2 e2 σ2 R => by rw [unlend_app]; exact a.rp _ _ _ _ (b.rp _ _ _ _ R), fun F2 H2 e2 σ2 ds v R q => by rw [unlend_app]; exact a.rv _ _ _ _ ds v (b.rp _ _ _ _ R) (b.rv _ _ _ _ ds v R q)⟩
def enumD (ds : List D) : List D := ds.zipIdx.map fun p => .tuple [.int (p.2 : Nat), p.1]
def enumE (a : Ev) : Sem1 Src := fun e => (opd a e).bind fun r e1 => (srcR r e1).bind fun s e2 => .ok ⟨enumD s.items, s.lend⟩ e2
theorem enumD_len (ds : List D) : (enumD ds).length = ds.length := by unfold enumD; rw [List.length_map, List.length_zipIdx]
theorem enumD_get {ds : List D} {i : Nat} {d : D} (h : ds[i]? = some d) : (enumD ds)[i]? = some (.tuple [.int (i : Nat), d]) := by
  unfold enumD
  rw [List.getElem?_map, List.getElem?_zipIdx, h]
  simp
theorem itOk_enum {k : Sk} {a : Addr} {xs : List V} {ds : List D} (hd : DpAll K F xs ds) (hs : ∀ F2 H2 e2 σ2, Rp K C F2 H2 e2 σ2 → Ext F F2 → SqK K H2 k a xs) : ItOk K C F (IteK K k a) (enumD ds) := by
  refine ⟨fun H => SqK K H k a xs, _, by rw [enumD_len, ← hd.length]; exact walk_enumK, hs, fun i x H1 H2 F1 E E1 _ y hi => ?_⟩
  obtain ⟨T, x1, x2, rfl, hT, rfl, h1, h2⟩ := y
  cases h1
  obtain ⟨d, h3, h4⟩ := hd.get' h2
  exact ⟨_, enumD_get h3, .tup hT (.cons (.int _) (.cons (Dp.ext E h4) .nil))⟩
theorem srcR_ok {r : Rv} {s : Src} {w : Wd} {Rr : It → Hp → Prop} {f : Src → Env → Rs Src} (P : PostI w C F σ Rr ((srcR r e).bind f)) : ∃ s e1, srcR r e = .ok s e1 ∧ PostI w C F σ Rr (f s e1) := by
  cases h : srcR r e with
  | no => rw [h] at P; exact P.elim
  | ok s e1 => rw [h] at P; exact ⟨s, e1, rfl, P⟩
  | ex x e1 =>
    exfalso
    unfold srcR at h
    split at h <;> first | (cases h; done) | (split at h <;> cases h)
theorem rd_enum {w : Wd} {a : Ev} {Rr : It → Hp → Prop} (h : rdI w (enumE a) σ H Rr) : iEnumK w.K (tCons (rdR w a) tNil) σ H Rr := by
  obtain ⟨C, F, e, R, P⟩ := h
  refine rd_opd (bindI R P fun F1 H1 e1 r v h1 R1 E1 q1 P1 => ?_)
  obtain ⟨s, e2, h2, P2⟩ := srcR_ok (s := ⟨[], []⟩) P1
  obtain ⟨k, a, xs, C', rfl, R2, B, hd, hs⟩ := src_held R1 (opd_still h1) q1 h2
  exact ⟨k, a, xs, rfl, hs _ _ _ _ R2 (.refl F1), P2 C' _ F1 H1 R2 (.refl F1) B (itOk_enum hd hs)⟩
def zipD (xs ys : List D) : List D := (xs.zip ys).map fun p => .tuple [p.1, p.2]
def zipE (a b : Ev) : Sem1 Src := fun e => (opd a e).bind fun r e1 => (opd b e1).bind fun s e2 => (srcR r e2).bind fun x e3 => (srcR s e3).bind fun y e4 => .ok ⟨zipD x.items y.items, y.lend ++ x.lend⟩ e4
theorem zipD_len (xs ys : List D) : (zipD xs ys).length = min xs.length ys.length := by unfold zipD; rw [List.length_map, List.length_zip]
theorem zipD_get {xs ys : List D} {i : Nat} {x y : D} (h : xs[i]? = some x) (h' : ys[i]? = some y) : (zipD xs ys)[i]? = some (.tuple [x, y]) := by
  unfold zipD
  rw [List.getElem?_map, List.getElem?_zip_eq_some (z := (x, y)) |>.mpr ⟨h, h'⟩]; rfl
theorem itOk_zip {k1 k2 : Sk} {a b : Addr} {xs ys : List V} {ds es : List D} (hd : DpAll K F xs ds) (he : DpAll K F ys es) (hs : ∀ F2 H2 e2 σ2, Rp K C F2 H2 e2 σ2 → Ext F F2 → SqK K H2 k1 a xs ∧ SqK K H2 k2 b ys) : ItOk K C F (ItzK K k1 k2 a b) (zipD ds es) := by
  refine ⟨fun H => SqK K H k1 a xs ∧ SqK K H k2 b ys, _, by rw [zipD_len, ← hd.length, ← he.length]; exact walk_zipK, hs, fun i x H1 H2 F1 E E1 _ y hi => ?_⟩
  obtain ⟨T, x1, x2, rfl, hT, rfl, h1, h2⟩ := y
  obtain ⟨d, h3, h4⟩ := hd.get' h1
  obtain ⟨d2, h5, h6⟩ := he.get' h2
  exact ⟨_, zipD_get h3 h5, .tup hT (.cons (Dp.ext E h4) (.cons (Dp.ext E h6) .nil))⟩
theorem rd_zip {w : Wd} {a b : Ev} {Rr : It → Hp → Prop} (h : rdI w (zipE a b) σ H Rr) : iZipK w.K (tCons (rdR w a) (tCons (rdR w b) tNil)) σ H Rr := by
  obtain ⟨C, F, e, R, P⟩ := h
  refine rd_opd (bindI R P fun F1 H1 e1 r v h1 R1 E1 q1 P1 => ?_)
  refine rd_opd (bindI R1 P1 fun F2 H2 e2 s u h2 R2 E2 q2 P2 => ?_)
  obtain ⟨x, e3, h3, P3⟩ := srcR_ok (s := ⟨[], []⟩) P2
  obtain ⟨y, e4, h4, P4⟩ := srcR_ok (s := ⟨[], []⟩) P3
  obtain ⟨k1, a1, xs, C1, rfl, R3, B1, hd, hs⟩ := src_held R2 (opd_still h1) (RvR.later (opd_still h1) E2 q1) h3
  have q3 : RvR w.K C1 F2 H2 e3 σ s u := by
    cases s with
    | fz d => exact q2
    | fresh ds => cases opd_still h2
    | bor j => exact q2
  obtain ⟨k2, b1, ys, C2, rfl, R4, B2, he, hs2⟩ := src_held R3 (opd_still h2) q3 h4
  have both : ∀ F2' H2' e2' σ2', Rp w.K C2 F2' H2' e2' σ2' → Ext F2 F2' → SqK w.K H2' k1 a1 xs ∧ SqK w.K H2' k2 b1 ys := fun F' H' e' σ' R' E' => ⟨hs _ _ _ _ (B2.rp _ _ _ _ R') E', hs2 _ _ _ _ R' E'⟩
  have h0 := both _ _ _ _ R4 (.refl F2)
  exact ⟨k1, k2, a1, b1, xs, ys, rfl, h0.1, h0.2, P4 C2 _ F2 H2 R4 (.refl F2) (B1.trans B2) (itOk_zip hd he both)⟩
section
variable {X : Cx} {w : Wd} {a b c : Expr} {ea eb ec : Ev} {p pos tpos : Pos} {elts : List Expr} {kk : Nat} {tg : Expr}
theorem vi_enum (hw : w.K = X.K) (hg : Gl X "enumerate") (hm : X.mg "enumerate" = none) (ha : PE X a (rdR w ea)) (h1 : starEach [a] X.env = (false, eval a X.env) :: starEach [] X.env := by rfl) (hs : starEach [a] X.env = [(false, eval a X.env)] := by rfl) :
    PI X (.Tuple elts kk tpos) (.Call (.Name "enumerate" p) [a] [] pos) (rdI w (enumE ea)) := pi_mono (pi_enumK hg hm (pa_cons ha pa_nil h1) hs) fun _ _ _ q => hw ▸ rd_enum q
theorem vi_zip (hw : w.K = X.K) (hg : Gl X "zip") (hm : X.mg "zip" = none) (ha : PE X a (rdR w ea)) (hb : PE X b (rdR w eb)) (h1 : starEach [a, b] X.env = (false, eval a X.env) :: starEach [b] X.env := by rfl) (h2 : starEach [b] X.env = (false, eval b X.env) :: starEach [] X.env := by rfl)
    (hpl : (backTo pos (starEach [b] X.env)).any (·.1) = false := by rfl) : PI X (.Tuple elts kk tpos) (.Call (.Name "zip" p) [a, b] [] pos) (rdI w (zipE ea eb)) := pi_mono (pi_zipK hg hm (pa_cons ha (pa_cons hb pa_nil h2) h1) h1 hpl) fun _ _ _ q => hw ▸ rd_zip q
end
end VI
set_option Elab.async false
set_option linter.all false
set_option maxRecDepth 100000
set_option maxHeartbeats 4000000
namespace VI
open PySem PySem.Spec PyProof.Rows L2
variable {K : PySem.W.Frag} {C : Cf} {F H : Hp} {e e' : Env} {σ : L2.St}
def fmApp : FM := fun xs ds => match ds with
  | [d] => if xs.length < sizeLine then some (.none, xs ++ [d]) else none
  | _ => none
theorem m_app : MutS K fmApp rAppend := by
  intro F H p xs vs dx ds z dx' E hp pF hd hv hz Q k
  unfold fmApp at hz
  split at hz
  · split at hz
    · rename_i d hl
      cases hz
      cases hv with
      | cons h1 h2 =>
        cases h2
        exact ⟨p, xs, _, rfl, rfl, hp, by rw [hd.length]; exact hl, k _ _ .non (hd.append (.cons h1 .nil))⟩
    · cases hz
  · cases hz
def fmPop : FM := fun xs ds => match ds with
  | [] => (xs.getLast?).map fun d => (d, xs.dropLast)
  | _ => none
structure DF (K : PySem.W.Frag) (mg : Str → Option Value) (x qual : Str) (st : Stmt) (ps : List Str) : Prop where
  ex : ∃ (f : Addr) (fd : FuncData), mg x = some (.ref f) ∧ PySem.W.keepIn K (.ref f) = true ∧ Binds K fd ps [] ∧ Fun K x qual st f fd
theorem DF.to {P : Program} {W : World} {mg : Str → Option Value} {base : Heap} {x qual : Str} {st : Stmt} {ps : List Str} {k n : Nat} {sp : Sp} (d : DF K mg x qual st ps) (hn : ps.length = n) (h : ∀ f fd, Fun K x qual st f fd → FnG P W K mg base k f fd ps sp) : Defn P W K mg base k x n sp := by
  obtain ⟨f, fd, h1, h2, h3, h4⟩ := d.ex
  exact ⟨f, fd, ps, h1, h2, h3, hn, h f fd h4⟩
theorem df_mk {mg : Str → Option Value} {h : Heap} {x qual : Str} {st : Stmt} {ps : List Str} {f : Addr} {oc : Value} {od an : Option Addr} {osl : Array (Option Value)} {kV doc pm cdv ct : Value} (X : K.In h) (G : h.Ns mainGlobals mg)
    (a : PySem.W.nsIn K mainGlobals x = some (some (.ref f))) (l : K.lookup f = some ⟨oc, od, .func (PySem.W.fnOf x qual (defArgs st) (defBody st) (defScope st) .none kV doc pm an cdv ct), osl⟩) (c : PySem.W.codeIn K cdv qual = true) (k : PySem.W.keepIn K (.ref f) = true)
    (hb : ∀ (kV doc pm : Value) (an : Option Addr) (cdv ct : Value) (us : List Value), us.length = ps.length → bindArgs (PySem.W.fnOf x qual (defArgs st) (defBody st) (defScope st) .none kV doc pm an cdv ct) ⟨us, []⟩ = pure (ps.zip us)) : DF K mg x qual st ps :=
  ⟨f, _, PySem.W.mg_of X G a, k, (fun_mk l c k).binds hb, fun_mk l c k⟩
theorem Defn.up {P : Program} {W : World} {mg : Str → Option Value} {base : Heap} {x : Str} {j k n : Nat} {sp : Sp} (d : Defn P W K mg base j x n sp) (h : j ≤ k) : Defn P W K mg base k x n sp := by
  obtain ⟨f, fd, ps, h1, h2, h3, h4, h5⟩ := d.ex
  exact ⟨f, fd, ps, h1, h2, h3, h4, h5.mono h⟩
/-- a promise that nobody asks for -/
theorem DF.no {P : Program} {W : World} {mg : Str → Option Value} {base : Heap} {x qual : Str} {st : Stmt} {ps : List Str} {k n : Nat} {XR : Hp → Hp → Xc → Value → Option Addr → Prop} (d : DF K mg x qual st ps) (hn : ps.length = n) : Defn P W K mg base k x n (spF K XR n fun _ => none) :=
  d.to hn fun f fd _ => ⟨fun vs H Q E h => by rw [hn]; exact h.1, fun A out s H given us vs Q E _ _ _ _ _ h => by obtain ⟨_, F, ds, _, _, _, z⟩ := h; exact z.elim⟩
/-- within a block nothing is let out -/
theorem passF {X : Cx} (σ : L2.St) : PassesAt (L2.CX X.prog X.w) X σ (WE (fun _ _ _ _ => False) σ) := fun _ _ _ _ _ _ h => by
  obtain ⟨_, _, _, _, _, _, _, _, _, _, _, _, z⟩ := h
  exact z.elim
end VI
set_option Elab.async false
set_option linter.all false
set_option maxRecDepth 100000
set_option maxHeartbeats 4000000
namespace VI
open PySem PySem.Spec PyProof.Rows L2
variable {K : PySem.W.Frag} {C : Cf} {F H : Hp} {e e' : Env} {σ : L2.St}
section
variable {X : Cx}
end
def addI : F2 := ii fun i j => some (.int (i + j))
def mulI : F2 := ii fun i j => if mulOk i j then some (.int (i * j)) else none
def pick {α : Type} (is : List Nat) (l : List α) : List α := is.filterMap fun i => l[i]?
theorem vals_pick {vs : List V} {us : List Value} (h : Vals vs us) : ∀ is : List Nat, Vals (pick is vs) (pick is us)
  | [] => .nil
  | i :: is => by
    unfold pick
    rw [List.filterMap_cons, List.filterMap_cons]
    cases hv : vs[i]? with
    | none =>
      have : us[i]? = none := by rw [List.getElem?_eq_none_iff] at hv ⊢; rw [← h.length]; exact hv
      rw [this]; exact vals_pick h is
    | some v =>
      obtain ⟨u, hu, r⟩ := h.get hv
      rw [hu]; exact .cons r (vals_pick h is)
def KB (K : PySem.W.Frag) (fd : FuncData) (ps ks : List Str) (is : List Nat) : Prop := ∀ (s : Shared) (ws : List Value), K.In s.heap → ws.length = ks.length → BindsTo s fd ⟨[], ks.zip ws⟩ (ps.zip (pick is ws))
structure DefnK (P : Program) (W : World) (K : PySem.W.Frag) (mg : Str → Option Value) (base : Heap) (k : Nat) (x : Str) (ks : List Str) (is : List Nat) (sp : Sp) : Prop where
  ex : ∃ (f : Addr) (fd : FuncData) (ps : List Str), mg x = some (.ref f) ∧ PySem.W.keepIn K (.ref f) = true ∧ KB K fd ps ks is ∧ FnG P W K mg base k f fd ps sp
structure DFK (K : PySem.W.Frag) (mg : Str → Option Value) (x qual : Str) (st : Stmt) (ps ks : List Str) (is : List Nat) : Prop where
  ex : ∃ (f : Addr) (fd : FuncData), mg x = some (.ref f) ∧ PySem.W.keepIn K (.ref f) = true ∧ KB K fd ps ks is ∧ Fun K x qual st f fd
theorem DFK.to {P : Program} {W : World} {mg : Str → Option Value} {base : Heap} {x qual : Str} {st : Stmt} {ps ks : List Str} {is : List Nat} {k : Nat} {sp : Sp} (d : DFK K mg x qual st ps ks is) (h : ∀ f fd, Fun K x qual st f fd → FnG P W K mg base k f fd ps sp) : DefnK P W K mg base k x ks is sp := by
  obtain ⟨f, fd, h1, h2, h3, h4⟩ := d.ex
  exact ⟨f, fd, ps, h1, h2, h3, h f fd h4⟩
def eFK (fn : List D → Option Ret) (is : List Nat) (n : Nat) (as : Sem1 (List D)) : Ev := fun e => (as e).bind fun ds e1 => if ds.length = n then match fn (pick is ds) with
  | none => .no
  | some (.ok r) => .ok r e1
  | some (.ex x) => .ex x e1 else .no
theorem DpAll.pick {vs : List V} {ds : List D} (h : DpAll K F vs ds) : ∀ is : List Nat, DpAll K F (VI.pick is vs) (VI.pick is ds)
  | [] => .nil
  | i :: is => by
    unfold VI.pick
    rw [List.filterMap_cons, List.filterMap_cons]
    cases hv : ds[i]? with
    | none =>
      have : vs[i]? = none := by rw [List.getElem?_eq_none_iff] at hv ⊢; rw [h.length]; exact hv
      rw [this]; exact DpAll.pick h is
    | some v =>
      obtain ⟨u, hu, r⟩ := h.get hv
      rw [hu]; exact .cons r (DpAll.pick h is)
section
variable {X : Cx} {W : WX} {XR : Hp → Hp → Xc → Value → Option Addr → Prop} {k m n : Nat} {x : Str} {p pos kpos : Pos} {kws : List Keyword} {ks : List Str} {is : List Nat} {ex : Expr} {nm : Option Str} {a : Ev} {as : List Ev} {w : Wd}
theorem pk_mono {t t' : TA} (h : PK X kws t) (w : ∀ σ H Q, t' σ H Q → t σ H Q) : PK X kws t' := ⟨fun pos pins s σ H Q I q => h.run pos pins s σ H Q I (w σ H Q q)⟩
theorem vk_nil : PK X [] (rdDs w (toDs [])) := pk_mono pk_nil fun _ _ _ h => rd_toDs_nil h
theorem vk_cons (ha : PE X ex (rdR w a)) (hr : PK X kws (rdDs w (toDs as))) : PK X (⟨nm, ex, kpos⟩ :: kws) (rdDs w (toDs (a :: as))) := pk_mono (pk_cons ha hr) fun _ _ _ h => rd_toDs_cons h
end
section
variable {prog : Program} {w : World} {A : Around} {E : Value → Shared → Prop} {s : Shared}
end
def revD : F1 := fun d => match d with
  | .list ds => some (.fresh ds.reverse)
  | .tuple ds => some (.fz (.tuple ds.reverse))
  | _ => none
end VI
set_option Elab.async false
set_option linter.all false
namespace VI
open PySem PySem.Spec PyProof.Rows L2
theorem bb_len : bootBuiltins "len" = some (.builtin "len") := by decide +kernel
theorem bb_abs : bootBuiltins "abs" = some (.builtin "abs") := by decide +kernel
theorem bb_all : bootBuiltins "all" = some (.builtin "all") := by decide +kernel
theorem bb_tuple : bootBuiltins "tuple" = some (.type "tuple") := by decide +kernel
theorem bb_list : bootBuiltins "list" = some (.type "list") := by decide +kernel
theorem bb_int : bootBuiltins "int" = some (.type "int") := by decide +kernel
theorem bb_str : bootBuiltins "str" = some (.type "str") := by decide +kernel
theorem bb_bool : bootBuiltins "bool" = some (.type "bool") := by decide +kernel
theorem bb_LookupError : bootBuiltins "LookupError" = some (.type "LookupError") := by decide +kernel
theorem bb_ValueError : bootBuiltins "ValueError" = some (.type "ValueError") := by decide +kernel
theorem bb_RuntimeError : bootBuiltins "RuntimeError" = some (.type "RuntimeError") := by decide +kernel
theorem bb_OverflowError : bootBuiltins "OverflowError" = some (.type "OverflowError") := by decide +kernel
/-- the law's own def: what it gives at every script, told to the end -/
theorem law_fn {P : Program} {W : World} {K : PySem.W.Frag} {mg : Str → Option Value} {base : Heap} {XR : Hp → Hp → Xc → Value → Option Addr → Prop} {k n : Nat} {f : Addr} {fd : FuncData} {x : Str} {fn : List D → Option Ret} (G : FnG P W K mg base k f fd [x] (spF K XR 1 fn))
    (hl : ∀ ns : List Int, ns.length ≤ n → (∀ k ∈ ns, Builtin.Int.intBits k ≤ 1048576) → fn [.list (ns.map .int)] = some (.ok (.fz (.bool true)))) : FnG P W K mg base k f fd [x] (spLaw n) where
  len := fun vs H Q E ⟨a, o, ns, h, _⟩ => by subst h; rfl
  run := fun A out s H given us vs Q E hr hu e0 bnd rv ⟨a, o, ns, h, h1, h2, h3, h4⟩ => by
    subst h h3
    refine G.run A out s _ given us _ Q E hr hu e0 bnd rv ⟨rfl, scriptHp a o ns, [.list (ns.map .int)], .refl _, fun b xs z => z, .cons (.lst (.inr ⟨o, scriptHp_at⟩) (DpAll.of_ints ns)) .nil, ?_⟩
    rw [hl ns h1 h2]
    intro v F' H' _ q
    have q : Dp K F' v (.bool true) := q
    cases q
    exact h4 H'
end VI
set_option Elab.async false
set_option linter.all false
set_option maxRecDepth 100000
set_option maxHeartbeats 4000000
namespace VI
open PySem PySem.Spec PyProof.Rows L2
abbrev Po (α : Type) := α → Env → Prop
/-- it ends well, and so -/
def Ok {α : Type} (r : Rs α) (Q : Po α) : Prop := match r with
  | .ok a e => Q a e
  | _ => False
section
variable {α β : Type} {e : Env} {i j : Nat} {d x y : D} {ds xs : List D} {r : Rv} {rs : List Rv} {o : Option (Option Sv)} {a b c : Ev} {as : List Ev} {f g : F2} {f1 : F1} {fb : List D → Option Rv} {s t u : Sem1 Bool} {p q : St1} {ps : List St1}
@[simp] theorem ok_ok {z : α} {Q : Po α} : Ok (.ok z e) Q = Q z e := rfl
@[simp] theorem ok_no {Q : Po α} : Ok .no Q = False := rfl
theorem ok_bind {z : Rs α} {k : α → Env → Rs β} {Q : Po β} : Ok (z.bind k) Q = Ok z (fun w e => Ok (k w e) Q) := by cases z <;> rfl
@[simp] theorem ok_ite {m : Prop} [Decidable m] {z w : Rs α} {Q : Po α} : Ok (if m then z else w) Q = if m then Ok z Q else Ok w Q := by split <;> rfl
theorem Ok.mono {z : Rs α} {Q Q' : Po α} (h : Ok z Q) (k : ∀ w e, Q w e → Q' w e) : Ok z Q' := by
  cases z with
  | ok w e => exact k w e h
  | no => exact h
  | ex w e => exact h
theorem ok_get {z : Rs α} {Q : Po α} (h : Ok z Q) : ∃ w e, z = .ok w e ∧ Q w e := by
  cases z with
  | ok w e => exact ⟨w, e, rfl, h⟩
  | no => exact h.elim
  | ex w e => exact h.elim
def okO (z : Option α) (e : Env) (Q : Po α) : Prop := match z with
  | none => False
  | some w => Q w e
@[simp] theorem okO_some {w : α} {Q : Po α} : okO (some w) e Q = Q w e := rfl
@[simp] theorem okO_none {Q : Po α} : okO none e Q = False := rfl
@[simp] theorem okO_ite {m : Prop} [Decidable m] {z w : Option α} {Q : Po α} : okO (if m then z else w) e Q = if m then okO z e Q else okO w e Q := by split <;> rfl
@[simp] theorem ok_ofO {z : Option α} {Q : Po α} : Ok (ofO z e) Q = okO z e Q := by cases z <;> rfl
def okL (o : Option (Option Sv)) (i : Nat) (e : Env) (Q : Po Rv) : Prop := match o with
  | some (some (.fz d)) => Q (.fz d) e
  | some (some _) => Q (.bor i) e
  | _ => False
@[simp] theorem okL_fz {Q : Po Rv} : okL (some (some (.fz d))) i e Q = Q (.fz d) e := rfl
@[simp] theorem okL_own {Q : Po Rv} : okL (some (some (.own ds))) i e Q = Q (.bor i) e := rfl
@[simp] theorem okL_lent {Q : Po Rv} : okL (some (some (.lent ds))) i e Q = Q (.bor i) e := rfl
@[simp] theorem okL_io {Q : Po Rv} : okL (some (some (.io ds))) i e Q = Q (.bor i) e := rfl
@[simp] theorem ok_V {Q : Po Rv} : Ok (eV i e) Q = okL e[i]? i e Q := by
  unfold eV okL
  cases e[i]? with
  | none => rfl
  | some z => cases z with
    | none => rfl
    | some y => cases y <;> rfl
@[simp] theorem ok_C {Q : Po Rv} : Ok (eC d e) Q = Q (.fz d) e := rfl
@[simp] theorem calm_fz : calmR (.fz d) = .fz d := rfl
@[simp] theorem calm_fresh : calmR (.fresh ds) = .fz (.list ds) := rfl
@[simp] theorem calm_bor : calmR (.bor i) = .bor i := rfl
def kOpd (Q : Po Rv) : Po Rv := fun r e => Q (calmR r) e
@[simp] theorem kOpd_eq {Q : Po Rv} : kOpd Q r e = Q (calmR r) e := rfl
@[simp] theorem ok_opd {Q : Po Rv} : Ok (opd a e) Q = Ok (a e) (kOpd Q) := by unfold opd; rw [ok_bind]; rfl
def okF (o : Option (Option Sv)) (i : Nat) (e : Env) (Q : Po D) : Prop := match o with
  | some (some (.fz d)) => Q d e
  | some (some (.own ds)) => Q (.list ds) (e.set i (some (.fz (.list ds))))
  | _ => False
@[simp] theorem okF_fz {Q : Po D} : okF (some (some (.fz d))) i e Q = Q d e := rfl
@[simp] theorem okF_own {Q : Po D} : okF (some (some (.own ds))) i e Q = Q (.list ds) (e.set i (some (.fz (.list ds)))) := rfl
def kFrz (Q : Po D) : Po Rv := fun r e => Ok (frz r e) Q
@[simp] theorem kFrz_fz {Q : Po D} : kFrz Q (.fz d) e = Q d e := rfl
@[simp] theorem kFrz_fresh {Q : Po D} : kFrz Q (.fresh ds) e = Q (.list ds) e := rfl
@[simp] theorem kFrz_bor {Q : Po D} : kFrz Q (.bor i) e = okF e[i]? i e Q := by
  unfold kFrz frz okF
  simp only
  cases e[i]? with
  | none => rfl
  | some z => cases z with
    | none => rfl
    | some y => cases y <;> rfl
@[simp] theorem ok_toD {Q : Po D} : Ok (toD a e) Q = Ok (a e) (kFrz Q) := by unfold toD; rw [ok_bind]; rfl
def lookD (o : Option (Option Sv)) : Option D := match o with
  | some (some (.fz d)) => some d
  | some (some (.own ds)) => some (.list ds)
  | some (some (.lent ds)) => some (.list ds)
  | some (some (.io ds)) => some (.list ds)
  | _ => none
@[simp] theorem peek_fz : peek (.fz d) e = some d := rfl
@[simp] theorem peek_fresh : peek (.fresh ds) e = some (.list ds) := rfl
@[simp] theorem peek_bor : peek (.bor i) e = lookD e[i]? := rfl
@[simp] theorem lookD_fz : lookD (some (some (.fz d))) = some d := rfl
@[simp] theorem lookD_own : lookD (some (some (.own ds))) = some (.list ds) := rfl
@[simp] theorem lookD_lent : lookD (some (some (.lent ds))) = some (.list ds) := rfl
@[simp] theorem lookD_io : lookD (some (some (.io ds))) = some (.list ds) := rfl
def kDs2 (x : D) (Q : Po (List D)) : Po (List D) := fun xs e => Q (x :: xs) e
@[simp] theorem kDs2_eq {Q : Po (List D)} : kDs2 x Q xs e = Q (x :: xs) e := rfl
def kDs1 (as : List Ev) (Q : Po (List D)) : Po D := fun x e => Ok (toDs as e) (kDs2 x Q)
@[simp] theorem kDs1_eq {Q : Po (List D)} : kDs1 as Q x e = Ok (toDs as e) (kDs2 x Q) := rfl
@[simp] theorem ok_toDs_nil {Q : Po (List D)} : Ok (toDs [] e) Q = Q [] e := rfl
@[simp] theorem ok_toDs {Q : Po (List D)} : Ok (toDs (a :: as) e) Q = Ok (a e) (kFrz (kDs1 as Q)) := by
  unfold toDs
  rw [ok_bind, ok_toD]
  congr 2
  funext x e1
  rw [ok_bind]; rfl
def kRs2 (x : Rv) (Q : Po (List Rv)) : Po (List Rv) := fun xs e => Q (x :: xs) e
@[simp] theorem kRs2_eq {Q : Po (List Rv)} : kRs2 r Q rs e = Q (r :: rs) e := rfl
def kRs1 (as : List Ev) (Q : Po (List Rv)) : Po Rv := fun x e => Ok (opds as e) (kRs2 x Q)
@[simp] theorem kRs1_eq {Q : Po (List Rv)} : kRs1 as Q r e = Ok (opds as e) (kRs2 r Q) := rfl
@[simp] theorem ok_opds_nil {Q : Po (List Rv)} : Ok (opds [] e) Q = Q [] e := rfl
@[simp] theorem ok_opds {Q : Po (List Rv)} : Ok (opds (a :: as) e) Q = Ok (a e) (kOpd (kRs1 as Q)) := by
  unfold opds
  rw [ok_bind, ok_opd]
  congr 2
  funext x e1
  rw [ok_bind]; rfl
@[simp] theorem peeks_nil : peeks [] e = some [] := rfl
@[simp] theorem peeks_cons : peeks (r :: rs) e = (peek r e).bind fun d => (peeks rs e).bind fun ds => some (d :: ds) := rfl
@[simp] theorem ap2_eq {x y : Rv} : ap2 f x y e = (peek x e).bind fun dx => (peek y e).bind fun dy => f dx dy := rfl
@[simp] theorem ap1_eq {x : Rv} : ap1 f1 x e = (peek x e).bind f1 := rfl
def kB2 (f : F2) (x : Rv) (Q : Po Rv) : Po Rv := kOpd fun y e2 => Ok (ofO (ap2 f x y e2) e2) Q
def kB1 (f : F2) (b : Ev) (Q : Po Rv) : Po Rv := kOpd fun x e1 => Ok ((opd b e1).bind fun y e2 => ofO (ap2 f x y e2) e2) Q
@[simp] theorem kB2_eq {x : Rv} {Q : Po Rv} : kB2 f x Q r e = okO (ap2 f x (calmR r) e) e Q := ok_ofO
@[simp] theorem kB1_eq {Q : Po Rv} : kB1 f b Q r e = Ok (b e) (kB2 f (calmR r) Q) := by
  show Ok ((opd b e).bind fun y e2 => ofO (ap2 f (calmR r) y e2) e2) Q = _
  rw [ok_bind, ok_opd]; rfl
@[simp] theorem ok_bin {Q : Po Rv} : Ok (bin2 f a b e) Q = Ok (a e) (kB1 f b Q) := by unfold bin2; rw [ok_bind, ok_opd]; rfl
def kU (f1 : F1) (Q : Po Rv) : Po Rv := kOpd fun x e1 => Ok (ofO (ap1 f1 x e1) e1) Q
@[simp] theorem kU_eq {Q : Po Rv} : kU f1 Q r e = okO (ap1 f1 (calmR r) e) e Q := ok_ofO
@[simp] theorem ok_un {Q : Po Rv} : Ok (un1 f1 a e) Q = Ok (a e) (kU f1 Q) := by unfold un1; rw [ok_bind, ok_opd]; rfl
def kBl (fb : List D → Option Rv) (Q : Po Rv) : Po (List Rv) := fun rs e => okO ((peeks rs e).bind fb) e Q
@[simp] theorem kBl_eq {Q : Po Rv} : kBl fb Q rs e = okO ((peeks rs e).bind fb) e Q := rfl
@[simp] theorem ok_B {k : Sem1 (List Rv)} {Q : Po Rv} : Ok (eB fb k e) Q = Ok (k e) (kBl fb Q) := by
  unfold eB
  rw [ok_bind]
  congr 1
  funext rs e1
  exact ok_ofO
@[simp] theorem on1_eq {h : D → Option Rv} : on1 h [d] = h d := rfl
@[simp] theorem on2_eq {h : D → D → Option Rv} : on2 h [x, y] = h x y := rfl
def kTup (Q : Po Rv) : Po (List D) := fun ds e => ds.length ≤ sizeLine ∧ Q (.fz (.tuple ds)) e
@[simp] theorem kTup_eq {Q : Po Rv} : kTup Q ds e = (ds.length ≤ sizeLine ∧ Q (.fz (.tuple ds)) e) := rfl
@[simp] theorem ok_tup {k : Sem1 (List D)} {Q : Po Rv} : Ok (eTup k e) Q = Ok (k e) (kTup Q) := by
  unfold eTup
  rw [ok_bind]
  congr 1
  funext ds e1
  by_cases h : ds.length ≤ sizeLine <;> simp [h]
def kLst (Q : Po Rv) : Po (List D) := fun ds e => ds.length ≤ sizeLine ∧ Q (.fresh ds) e
@[simp] theorem kLst_eq {Q : Po Rv} : kLst Q ds e = (ds.length ≤ sizeLine ∧ Q (.fresh ds) e) := rfl
@[simp] theorem ok_lst {k : Sem1 (List D)} {Q : Po Rv} : Ok (eLst k e) Q = Ok (k e) (kLst Q) := by
  unfold eLst
  rw [ok_bind]
  congr 1
  funext ds e1
  by_cases h : ds.length ≤ sizeLine <;> simp [h]
def okI (r : Rv) (e : Env) (Q : Po (Option Int)) : Prop := match r with
  | .fz (.int i) => Q (some i) e
  | _ => False
@[simp] theorem okI_eq {z : Int} {Q : Po (Option Int)} : okI (.fz (.int z)) e Q = Q (some z) e := rfl
def kI (Q : Po (Option Int)) : Po Rv := fun r e => okI (calmR r) e Q
@[simp] theorem kI_eq {Q : Po (Option Int)} : kI Q r e = okI (calmR r) e Q := rfl
@[simp] theorem ok_opI0 {Q : Po (Option Int)} : Ok (opI none e) Q = Q none e := rfl
@[simp] theorem ok_opI1 {Q : Po (Option Int)} : Ok (opI (some a) e) Q = Ok (a e) (kI Q) := by
  show Ok ((opd a e).bind _) Q = _
  rw [ok_bind, ok_opd]
  congr 2
  funext r e1
  cases r with
  | fz d => cases d <;> rfl
  | fresh _ => rfl
  | bor _ => rfl
def kS3 (x : Rv) (l : Option Int) (Q : Po Rv) : Po (Option Int) := fun u e => okO ((peek x e).bind fun dx => slD dx l u) e Q
def kS2 (x : Rv) (hi : Option Ev) (Q : Po Rv) : Po (Option Int) := fun l e => Ok (opI hi e) (kS3 x l Q)
def kS1 (lo hi : Option Ev) (Q : Po Rv) : Po Rv := fun r e => Ok (opI lo e) (kS2 (calmR r) hi Q)
@[simp] theorem kS3_eq {x : Rv} {l u : Option Int} {Q : Po Rv} : kS3 x l Q u e = okO ((peek x e).bind fun dx => slD dx l u) e Q := rfl
@[simp] theorem kS2_eq {x : Rv} {l : Option Int} {hi : Option Ev} {Q : Po Rv} : kS2 x hi Q l e = Ok (opI hi e) (kS3 x l Q) := rfl
@[simp] theorem kS1_eq {lo hi : Option Ev} {Q : Po Rv} : kS1 lo hi Q r e = Ok (opI lo e) (kS2 (calmR r) hi Q) := rfl
@[simp] theorem ok_sl {lo hi : Option Ev} {Q : Po Rv} : Ok (slE a lo hi e) Q = Ok (a e) (kS1 lo hi Q) := by
  unfold slE
  rw [ok_bind, ok_opd]
  congr 1
  funext r e1
  show Ok ((opI lo e1).bind _) Q = _
  rw [ok_bind]
  show _ = Ok (opI lo e1) _
  congr 1
  funext l e2
  rw [ok_bind]
  show _ = Ok (opI hi e2) _
  congr 1
  funext u e3
  exact ok_ofO
def okB (r : Rv) (e : Env) (Q : Po Bool) : Prop := match r with
  | .fz (.bool b) => Q b e
  | _ => False
@[simp] theorem okB_eq {z : Bool} {Q : Po Bool} : okB (.fz (.bool z)) e Q = Q z e := rfl
def kT (Q : Po Bool) : Po Rv := fun r e => okB r e Q
@[simp] theorem kT_eq {Q : Po Bool} : kT Q r e = okB r e Q := rfl
@[simp] theorem ok_tst {Q : Po Bool} : Ok (tst a e) Q = Ok (a e) (kT Q) := by
  unfold tst
  rw [ok_bind]
  congr 1
  funext r e1
  cases r with
  | fz d => cases d <;> rfl
  | fresh _ => rfl
  | bor _ => rfl
def kIf (p q : Sem1 α) (Q : Po α) : Po Bool := fun z e => if z then Ok (p e) Q else Ok (q e) Q
@[simp] theorem kIf_t {p q : Sem1 α} {Q : Po α} : kIf p q Q true e = Ok (p e) Q := rfl
@[simp] theorem kIf_f {p q : Sem1 α} {Q : Po α} : kIf p q Q false e = Ok (q e) Q := rfl
@[simp] theorem kIf_d {m : Prop} [Decidable m] {p q : Sem1 α} {Q : Po α} : kIf p q Q (decide m) e = if m then Ok (p e) Q else Ok (q e) Q := by by_cases h : m <;> simp [h, kIf]
@[simp] theorem kIf_n {z : Bool} {p q : Sem1 α} {Q : Po α} : kIf p q Q (!z) e = kIf q p Q z e := by cases z <;> rfl
def cT (z : Bool) : Sem1 Bool := fun e => .ok z e
@[simp] theorem ok_cT {z : Bool} {Q : Po Bool} : Ok (cT z e) Q = Q z e := rfl
def cV (z : Bool) : Ev := fun e => .ok (.fz (.bool z)) e
@[simp] theorem ok_cV {z : Bool} {Q : Po Rv} : Ok (cV z e) Q = Q (.fz (.bool z)) e := rfl
theorem ok_if2 {z : Rs Bool} {p q : Sem1 α} {Q : Po α} : Ok (z.bind fun w e1 => if w then p e1 else q e1) Q = Ok z (kIf p q Q) := by
  rw [ok_bind]
  congr 1
  funext w e1
  cases w <;> rfl
@[simp] theorem ok_and {Q : Po Bool} : Ok (andT s t e) Q = Ok (s e) (kIf t (cT false) Q) := ok_if2 (q := cT false)
@[simp] theorem ok_or {Q : Po Bool} : Ok (orT s t e) Q = Ok (s e) (kIf (cT true) t Q) := ok_if2 (p := cT true)
def kNot (Q : Po Bool) : Po Bool := fun z e => Q (!z) e
@[simp] theorem kNot_eq {z : Bool} {Q : Po Bool} : kNot Q z e = Q (!z) e := rfl
@[simp] theorem ok_not {Q : Po Bool} : Ok (notT s e) Q = Ok (s e) (kNot Q) := by unfold notT; rw [ok_bind]; rfl
@[simp] theorem ok_andV {Q : Po Rv} : Ok (andV a b e) Q = Ok (a e) (kT (kIf b (cV false) Q)) := by
  rw [← ok_tst]; exact ok_if2 (q := cV false)
@[simp] theorem ok_orV {Q : Po Rv} : Ok (orV a b e) Q = Ok (a e) (kT (kIf (cV true) b Q)) := by
  rw [← ok_tst]; exact ok_if2 (p := cV true)
def kNotV (Q : Po Rv) : Po Bool := fun z e => Q (.fz (.bool (!z))) e
@[simp] theorem kNotV_eq {z : Bool} {Q : Po Rv} : kNotV Q z e = Q (.fz (.bool (!z))) e := rfl
@[simp] theorem ok_notV {Q : Po Rv} : Ok (notV a e) Q = Ok (a e) (kT (kNotV Q)) := by unfold notV; rw [ok_bind, ok_tst]; rfl
@[simp] theorem ok_iteV {Q : Po Rv} : Ok (iteV s a b e) Q = Ok (s e) (kIf a b Q) := ok_if2
@[simp] theorem ok_yes {Q : Po Bool} : Ok (yesT e) Q = Q true e := rfl
def kSeq (q : St1) (Q : Po Fl) : Po Fl := fun w e => match w with
  | .nx => Ok (q e) Q
  | w => Q w e
@[simp] theorem kSeq_nx {Q : Po Fl} : kSeq q Q .nx e = Ok (q e) Q := rfl
@[simp] theorem kSeq_bk {Q : Po Fl} : kSeq q Q .bk e = Q .bk e := rfl
@[simp] theorem kSeq_ct {Q : Po Fl} : kSeq q Q .ct e = Q .ct e := rfl
@[simp] theorem kSeq_ret {Q : Po Fl} : kSeq q Q (.ret r) e = Q (.ret r) e := rfl
theorem ok_seq {Q : Po Fl} : Ok (seqS p q e) Q = Ok (p e) (kSeq q Q) := by
  unfold seqS
  rw [ok_bind]
  congr 1
  funext w e1
  cases w <;> rfl
@[simp] theorem ok_blk0 {Q : Po Fl} : Ok (block [] e) Q = Q .nx e := rfl
@[simp] theorem ok_blk1 {Q : Po Fl} : Ok (block [p] e) Q = Ok (p e) Q := rfl
@[simp] theorem ok_blk {Q : Po Fl} : Ok (block (p :: q :: ps) e) Q = Ok (p e) (kSeq (block (q :: ps)) Q) := ok_seq
@[simp] theorem ok_skip {Q : Po Fl} : Ok (skipS e) Q = Q .nx e := rfl
def okP (o : Option (Option Sv)) (i : Nat) (z : Sv) (e : Env) (Q : Po Fl) : Prop := match o with
  | some (some (.lent _)) => False
  | some (some (.io _)) => False
  | some (some (.tr _ _)) => False
  | some _ => Q .nx (e.set i (some z))
  | none => False
@[simp] theorem okP_none {z : Sv} {Q : Po Fl} : okP (some none) i z e Q = Q .nx (e.set i (some z)) := rfl
@[simp] theorem okP_fz {z : Sv} {Q : Po Fl} : okP (some (some (.fz d))) i z e Q = Q .nx (e.set i (some z)) := rfl
@[simp] theorem okP_own {z : Sv} {Q : Po Fl} : okP (some (some (.own ds))) i z e Q = Q .nx (e.set i (some z)) := rfl
theorem okP_eq {z : Sv} {Q : Po Fl} : Ok (if freeAt e i then .ok .nx (e.set i (some z)) else .no : Rs Fl) Q = okP e[i]? i z e Q := by
  unfold freeAt
  cases e[i]? with
  | none => rfl
  | some o => cases o with
    | none => rfl
    | some y => cases y <;> rfl
def kSt (i : Nat) (Q : Po Fl) : Po Rv := fun r e => Ok (store i r e) Q
@[simp] theorem kSt_fz {Q : Po Fl} : kSt i Q (.fz d) e = okP e[i]? i (.fz d) e Q := okP_eq
@[simp] theorem kSt_fresh {Q : Po Fl} : kSt i Q (.fresh ds) e = okP e[i]? i (.own ds) e Q := okP_eq
def kSt2 (i : Nat) (Q : Po Fl) : Po D := fun d e => okP e[i]? i (.fz d) e Q
@[simp] theorem kSt2_eq {Q : Po Fl} : kSt2 i Q d e = okP e[i]? i (.fz d) e Q := rfl
@[simp] theorem kSt_bor {Q : Po Fl} : kSt i Q (.bor j) e = okF e[j]? j e (kSt2 i Q) := by
  show Ok ((frz (.bor j) e).bind _) Q = _
  rw [ok_bind, ← kFrz_bor]
  show _ = Ok (frz (.bor j) e) _
  congr 1
  funext d e1
  exact okP_eq
@[simp] theorem ok_asg {Q : Po Fl} : Ok (asgS i a e) Q = Ok (a e) (kSt i Q) := by unfold asgS; rw [ok_bind]; rfl
@[simp] theorem ok_if {Q : Po Fl} : Ok (ifS s p q e) Q = Ok (s e) (kIf p q Q) := ok_if2
def kEx (Q : Po Fl) : Po Rv := fun _ e => Q .nx e
@[simp] theorem kEx_eq {Q : Po Fl} : kEx Q r e = Q .nx e := rfl
@[simp] theorem ok_expr {Q : Po Fl} : Ok (exprS a e) Q = Ok (a e) (kEx Q) := by unfold exprS; rw [ok_bind]; rfl
def okR (o : Option (Option Sv)) (i : Nat) (e : Env) (Q : Po Fl) : Prop := match o with
  | some (some (.own ds)) => Q (.ret (.fresh ds)) (e.set i none)
  | some (some (.fz d)) => Q (.ret (.fz d)) e
  | _ => False
@[simp] theorem okR_own {Q : Po Fl} : okR (some (some (.own ds))) i e Q = Q (.ret (.fresh ds)) (e.set i none) := rfl
@[simp] theorem okR_fz {Q : Po Fl} : okR (some (some (.fz d))) i e Q = Q (.ret (.fz d)) e := rfl
def kRet (Q : Po Fl) : Po Rv := fun r e => match r with
  | .fz d => Q (.ret (.fz d)) e
  | .fresh ds => Q (.ret (.fresh ds)) e
  | .bor i => okR e[i]? i e Q
@[simp] theorem kRet_fz {Q : Po Fl} : kRet Q (.fz d) e = Q (.ret (.fz d)) e := rfl
@[simp] theorem kRet_fresh {Q : Po Fl} : kRet Q (.fresh ds) e = Q (.ret (.fresh ds)) e := rfl
@[simp] theorem kRet_bor {Q : Po Fl} : kRet Q (.bor i) e = okR e[i]? i e Q := rfl
@[simp] theorem ok_ret {Q : Po Fl} : Ok (retS a e) Q = Ok (a e) (kRet Q) := by
  unfold retS
  rw [ok_bind]
  congr 1
  funext r e1
  cases r with
  | fz d => rfl
  | fresh d => rfl
  | bor i =>
    show Ok (match e1[i]? with | some (some (.own ds)) => .ok (.ret (.fresh ds)) (e1.set i none) | some (some (.fz d)) => .ok (.ret (.fz d)) e1 | _ => .no) Q = okR e1[i]? i e1 Q
    cases e1[i]? with
    | none => rfl
    | some o => cases o with
      | none => rfl
      | some y => cases y <;> rfl
@[simp] theorem ok_retN {Q : Po Fl} : Ok (retN e) Q = Q (.ret (.fz .none)) e := rfl
@[simp] theorem ok_bk {Q : Po Fl} : Ok (bkS e) Q = Q .bk e := rfl
@[simp] theorem ok_ct {Q : Po Fl} : Ok (ctS e) Q = Q .ct e := rfl
end
end VI
set_option Elab.async false
set_option linter.all false
set_option maxRecDepth 100000
set_option maxHeartbeats 4000000
namespace VI
open PySem PySem.Spec PyProof.Rows L2
section
variable {α β : Type} {e : Env} {i j n : Nat} {d x y : D} {ds xs : List D} {r : Rv} {rs : List Rv} {o : Option (Option Sv)} {a b c : Ev} {as : List Ev} {f g : F2} {s t u : Sem1 Bool} {p q : St1} {ps : List St1} {is : List Nat}
def kMv (Q : Po Rv) : Po Rv := fun r e => Ok (mvR r e) Q
def kMv1 (Q : Po Rv) : Po D := fun d e => Q (.fz d) e
@[simp] theorem kMv1_eq {Q : Po Rv} : kMv1 Q d e = Q (.fz d) e := rfl
@[simp] theorem kMv_fz {Q : Po Rv} : kMv Q (.fz d) e = Q (.fz d) e := rfl
@[simp] theorem kMv_fresh {Q : Po Rv} : kMv Q (.fresh ds) e = Q (.fresh ds) e := rfl
@[simp] theorem kMv_bor {Q : Po Rv} : kMv Q (.bor i) e = okF e[i]? i e (kMv1 Q) := by
  show Ok ((frz (.bor i) e).bind _) Q = _
  rw [ok_bind, ← kFrz_bor]; rfl
def kMs2 (x : Rv) (Q : Po (List Rv)) : Po (List Rv) := fun xs e => Q (x :: xs) e
@[simp] theorem kMs2_eq {Q : Po (List Rv)} : kMs2 r Q rs e = Q (r :: rs) e := rfl
def kMs1 (as : List Ev) (Q : Po (List Rv)) : Po Rv := fun x e => Ok (mvs as e) (kMs2 x Q)
@[simp] theorem kMs1_eq {Q : Po (List Rv)} : kMs1 as Q r e = Ok (mvs as e) (kMs2 r Q) := rfl
@[simp] theorem ok_mvs0 {Q : Po (List Rv)} : Ok (mvs [] e) Q = Q [] e := rfl
@[simp] theorem ok_mvs {Q : Po (List Rv)} : Ok (mvs (a :: as) e) Q = Ok (a e) (kMv (kMs1 as Q)) := by
  unfold mvs
  rw [ok_bind, ok_bind]
  congr 1
  funext x e1
  show Ok (mvR x e1) _ = Ok (mvR x e1) _
  congr 1
  funext x e1
  rw [ok_bind]; rfl
def kPar (is : List Nat) (Q : Po Fl) : Po (List Rv) := fun rs e => Ok (stores is rs e) Q
@[simp] theorem kPar0 {Q : Po Fl} : kPar [] Q [] e = Q .nx e := rfl
def kPar2 (is : List Nat) (rs : List Rv) (Q : Po Fl) : Po Fl := fun _ e => kPar is Q rs e
@[simp] theorem kPar2_eq {w : Fl} {Q : Po Fl} : kPar2 is rs Q w e = kPar is Q rs e := rfl
@[simp] theorem kPar1 {Q : Po Fl} : kPar (i :: is) Q (r :: rs) e = kSt i (kPar2 is rs Q) r e := by
  show Ok ((store i r e).bind _) Q = _
  rw [ok_bind]; rfl
@[simp] theorem ok_par {Q : Po Fl} : Ok (parS is as e) Q = Ok (mvs as e) (kPar is Q) := by unfold parS; rw [ok_bind]; rfl
def kAug2 (f : F2) (i : Nat) (d : D) (Q : Po Fl) : Po Rv := fun y e => okO ((peek (calmR y) e).bind fun dy => f d dy) e (kSt i Q)
@[simp] theorem kAug2_eq {Q : Po Fl} : kAug2 f i d Q r e = okO ((peek (calmR r) e).bind fun dy => f d dy) e (kSt i Q) := rfl
def okA (f : F2) (i : Nat) (a : Ev) (Q : Po Fl) (o : Option (Option Sv)) (e : Env) : Prop := match o with
  | some (some (.fz d)) => Ok (a e) fun y e1 => match e1[i]? with
    | some (some (.fz _)) => Ok (ofO ((peek (calmR y) e1).bind fun dy => f d dy) e1) fun r e2 => Ok (putR i r e2) Q
    | _ => False
  | _ => False
theorem ok_aug0 {Q : Po Fl} : Ok (augS f i a e) Q = okA f i a Q e[i]? e := by
  unfold augS okA
  cases e[i]? with
  | none => rfl
  | some z => cases z with
    | none => rfl
    | some w => cases w with
      | fz d =>
        simp only
        rw [ok_bind, ok_opd]
        show Ok (a e) _ = Ok (a e) _
        congr 1
        funext y e1
        show Ok (match e1[i]? with | some (some (.fz _)) => _ | _ => _) Q = _
        cases h : e1[i]? with
        | none => rfl
        | some z2 => cases z2 with
          | none => rfl
          | some w2 => cases w2 <;> first | rfl | (simp only; rw [ok_bind])
      | _ => rfl
def kAug (f : F2) (i : Nat) (d : D) (Q : Po Fl) : Po Rv := fun y e1 => match e1[i]? with
    | some (some (.fz _)) => Ok (ofO ((peek (calmR y) e1).bind fun dy => f d dy) e1) fun r e2 => Ok (putR i r e2) Q
    | _ => False
def kPutR (i : Nat) (Q : Po Fl) : Po Rv := fun r e => Ok (putR i r e) Q
@[simp] theorem kPutR_fz {Q : Po Fl} : kPutR i Q (.fz d) e = okP e[i]? i (.fz d) e Q := okP_eq
def okA2 (f : F2) (i : Nat) (d : D) (y : Rv) (e1 : Env) (Q : Po Fl) (o : Option (Option Sv)) : Prop := match o with
    | some (some (.fz _)) => okO ((peek (calmR y) e1).bind fun dy => f d dy) e1 (kPutR i Q)
    | _ => False
@[simp] theorem okA2_fz {z : D} {Q : Po Fl} : okA2 f i d r e Q (some (some (.fz z))) = okO ((peek (calmR r) e).bind fun dy => f d dy) e (kPutR i Q) := rfl
@[simp] theorem kAug_eq {Q : Po Fl} : kAug f i d Q r e = okA2 f i d r e Q e[i]? := by
  unfold kAug okA2
  cases e[i]? with
  | none => rfl
  | some z => cases z with
    | none => rfl
    | some w => cases w <;> first | rfl | exact ok_ofO
@[simp] theorem okA_fz {Q : Po Fl} : okA f i a Q (some (some (.fz d))) e = Ok (a e) (kAug f i d Q) := rfl
@[simp] theorem ok_aug {Q : Po Fl} : Ok (augS f i a e) Q = okA f i a Q e[i]? e := ok_aug0
def mutO (o : Option (Option Sv)) : Option (List D) := match o with
  | some (some (.own ds)) => some ds
  | some (some (.io ds)) => some ds
  | _ => none
@[simp] theorem mutO_own : mutO (some (some (.own ds))) = some ds := rfl
@[simp] theorem mutO_io : mutO (some (some (.io ds))) = some ds := rfl
def putO (o : Option (Option Sv)) (i : Nat) (ds : List D) (e : Env) : Env := match o with
  | some (some (.own _)) => e.set i (some (.own ds))
  | some (some (.io _)) => e.set i (some (.io ds))
  | _ => e
@[simp] theorem putO_own : putO (some (some (.own ds))) i xs e = e.set i (some (.own xs)) := rfl
@[simp] theorem putO_io : putO (some (some (.io ds))) i xs e = e.set i (some (.io xs)) := rfl
theorem mut_eq : VI.mutAt e i = mutO e[i]? := by
  unfold VI.mutAt mutO
  cases e[i]? with
  | none => rfl
  | some o => cases o with
    | none => rfl
    | some y => cases y <;> rfl
theorem put_eq : VI.putAt e i ds = putO e[i]? i ds e := by
  unfold VI.putAt putO
  cases e[i]? with
  | none => rfl
  | some o => cases o with
    | none => rfl
    | some y => cases y <;> rfl
/-- there is a list to change -/
def okM (o : Option (List D)) (p : Prop) : Prop := match o with
  | some _ => p
  | none => False
@[simp] theorem okM_some {z : Prop} : okM (some ds) z = z := rfl
def okM1 (fm : FM) (i : Nat) (ds : List D) (e : Env) (Q : Po Rv) (o : Option (List D)) : Prop := match o with
  | none => False
  | some xs => match fm xs ds with
    | none => False
    | some (z, xs') => Q (.fz z) (putO e[i]? i xs' e)
@[simp] theorem okM1_some {fm : FM} {Q : Po Rv} : okM1 fm i ds e Q (some xs) = match fm xs ds with
    | none => False
    | some (z, xs') => Q (.fz z) (putO e[i]? i xs' e) := rfl
def kM (fm : FM) (i : Nat) (Q : Po Rv) : Po (List D) := fun ds e => okM1 fm i ds e Q (mutO e[i]?)
@[simp] theorem kM_eq {fm : FM} {Q : Po Rv} : kM fm i Q ds e = okM1 fm i ds e Q (mutO e[i]?) := rfl
@[simp] theorem ok_M {fm : FM} {k : Sem1 (List D)} {Q : Po Rv} : Ok (eM fm i k e) Q = okM (mutO e[i]?) (Ok (k e) (kM fm i Q)) := by
  unfold eM
  rw [mut_eq]
  cases mutO e[i]? with
  | none => rfl
  | some z =>
    show Ok ((k e).bind _) Q = Ok (k e) _
    rw [ok_bind]
    congr 1
    funext ds e1
    rw [mut_eq]
    show _ = okM1 fm i ds e1 Q (mutO e1[i]?)
    cases mutO e1[i]? with
    | none => rfl
    | some xs =>
      simp only [okM1_some]
      cases fm xs ds with
      | none => rfl
      | some w => simp only [put_eq]; rfl
def okS3 (i : Nat) (d : D) (k : Rv) (e : Env) (Q : Po Fl) (o : Option (List D)) : Prop := match k, o with
  | .fz (.int k), some xs => match ixN xs.length k with
    | none => False
    | some j => Q .nx (putO e[i]? i (xs.set j d) e)
  | _, _ => False
@[simp] theorem okS3_eq {z : Int} {Q : Po Fl} : okS3 i d (.fz (.int z)) e Q (some xs) = match ixN xs.length z with
    | none => False
    | some j => Q .nx (putO e[i]? i (xs.set j d) e) := rfl
def kSet2 (i : Nat) (d : D) (Q : Po Fl) : Po Rv := fun r e => okS3 i d (calmR r) e Q (mutO e[i]?)
@[simp] theorem kSet2_eq {Q : Po Fl} : kSet2 i d Q r e = okS3 i d (calmR r) e Q (mutO e[i]?) := rfl
def kSet1 (i : Nat) (ix : Ev) (Q : Po Fl) : Po D := fun d e => okM (mutO e[i]?) (Ok (ix e) (kSet2 i d Q))
@[simp] theorem kSet1_eq {Q : Po Fl} : kSet1 i a Q d e = okM (mutO e[i]?) (Ok (a e) (kSet2 i d Q)) := rfl
@[simp] theorem ok_set {Q : Po Fl} : Ok (setS i a b e) Q = Ok (b e) (kFrz (kSet1 i a Q)) := by
  unfold setS
  rw [ok_bind, ok_toD]
  congr 2
  funext d e1
  rw [mut_eq]
  show _ = okM (mutO e1[i]?) _
  cases mutO e1[i]? with
  | none => rfl
  | some z =>
    show Ok ((opd a e1).bind _) Q = Ok (a e1) _
    rw [ok_bind, ok_opd]
    congr 1
    funext r e2
    show Ok (match calmR r, VI.mutAt e2 i with | .fz (.int k), some xs => _ | _, _ => _) Q = okS3 i d (calmR r) e2 Q (mutO e2[i]?)
    rw [mut_eq]
    unfold okS3
    cases calmR r with
    | fz d =>
      cases d <;> cases mutO e2[i]? <;> first | rfl | skip
      rename_i k xs
      simp only
      cases ixN xs.length k <;> first | rfl | (simp only [put_eq]; rfl)
    | fresh _ => rfl
    | bor _ => rfl
/-- what a call comes to: told by a promise -/
def okFn (z : Option Ret) (e : Env) (Q : Po Rv) : Prop := match z with
  | some (.ok r) => Q r e
  | _ => False
@[simp] theorem okFn_ok {Q : Po Rv} : okFn (some (.ok r)) e Q = Q r e := rfl
def kFn (fn : List D → Option Ret) (Q : Po Rv) : Po (List D) := fun ds e => okFn (fn ds) e Q
@[simp] theorem kFn_eq {fn : List D → Option Ret} {Q : Po Rv} : kFn fn Q ds e = okFn (fn ds) e Q := rfl
@[simp] theorem ok_F {fn : List D → Option Ret} {k : Sem1 (List D)} {Q : Po Rv} : Ok (eF fn k e) Q = Ok (k e) (kFn fn Q) := by
  unfold eF
  rw [ok_bind]
  congr 1
  funext ds e1
  show _ = okFn (fn ds) e1 Q
  cases fn ds with
  | none => rfl
  | some z => cases z <;> rfl
@[simp] theorem pick_nil {l : List α} : pick [] l = [] := rfl
@[simp] theorem pick_cons {l : List α} : pick (i :: is) l = (match l[i]? with | none => pick is l | some z => z :: pick is l) := by
  unfold pick
  rw [List.filterMap_cons]
  cases l[i]? <;> rfl
def kFnK (fn : List D → Option Ret) (is : List Nat) (n : Nat) (Q : Po Rv) : Po (List D) := fun ds e => ds.length = n ∧ okFn (fn (pick is ds)) e Q
@[simp] theorem kFnK_eq {fn : List D → Option Ret} {Q : Po Rv} : kFnK fn is n Q ds e = (ds.length = n ∧ okFn (fn (pick is ds)) e Q) := rfl
@[simp] theorem ok_FK {fn : List D → Option Ret} {k : Sem1 (List D)} {Q : Po Rv} : Ok (eFK fn is n k e) Q = Ok (k e) (kFnK fn is n Q) := by
  unfold eFK
  rw [ok_bind]
  congr 1
  funext ds e1
  show _ = (ds.length = n ∧ okFn (fn (pick is ds)) e1 Q)
  by_cases h : ds.length = n
  · simp only [h, if_true, true_and]
    cases fn (pick is ds) with
    | none => rfl
    | some z => cases z <;> rfl
  · simp [h]
/-- a call that may change its list -/
def okIo (z : Option (Ret × List D)) (i : Nat) (e : Env) (Q : Po Rv) : Prop := match z with
  | some (.ok r, b) => Q r (putO e[i]? i b e)
  | _ => False
@[simp] theorem okIo_ok {Q : Po Rv} : okIo (some (.ok r, ds)) i e Q = Q r (putO e[i]? i ds e) := rfl
def okIo1 (fn : List D → List D → Option (Ret × List D)) (i : Nat) (ds : List D) (e : Env) (Q : Po Rv) (o : Option (List D)) : Prop := match o with
  | none => False
  | some b => okIo (fn b ds) i e Q
@[simp] theorem okIo1_some {fn : List D → List D → Option (Ret × List D)} {Q : Po Rv} : okIo1 fn i ds e Q (some xs) = okIo (fn xs ds) i e Q := rfl
def kIo (fn : List D → List D → Option (Ret × List D)) (i : Nat) (Q : Po Rv) : Po (List D) := fun ds e => okIo1 fn i ds e Q (mutO e[i]?)
@[simp] theorem kIo_eq {fn : List D → List D → Option (Ret × List D)} {Q : Po Rv} : kIo fn i Q ds e = okIo1 fn i ds e Q (mutO e[i]?) := rfl
@[simp] theorem ok_Io {fn : List D → List D → Option (Ret × List D)} {k : Sem1 (List D)} {Q : Po Rv} : Ok (eI fn i k e) Q = okM (mutO e[i]?) (Ok (k e) (kIo fn i Q)) := by
  unfold eI
  rw [mut_eq]
  cases mutO e[i]? with
  | none => rfl
  | some z =>
    show Ok ((k e).bind _) Q = Ok (k e) _
    rw [ok_bind]
    congr 1
    funext ds e1
    rw [mut_eq]
    show _ = okIo1 fn i ds e1 Q (mutO e1[i]?)
    cases mutO e1[i]? with
    | none => rfl
    | some xs =>
      show Ok (match fn xs ds with | none => .no | some (.ok r, b') => .ok r (VI.putAt e1 i b') | some (.ex x, b') => .ex x (VI.putAt e1 i b')) Q = okIo (fn xs ds) i e1 Q
      cases fn xs ds with
      | none => rfl
      | some w =>
        obtain ⟨w1, w2⟩ := w
        cases w1 with
        | ok r => simp only [put_eq]; rfl
        | ex x => rfl
def endI (P : Rv → List D → Prop) : Po Fl := fun w e => ∃ b, ioAt e = some b ∧ match w with
  | .ret r => P r b
  | .nx => P (.fz .none) b
  | _ => False
@[simp] theorem endI_ret {P : Rv → List D → Prop} : endI P (.ret r) e = ∃ b, ioAt e = some b ∧ P r b := rfl
@[simp] theorem endI_nx {P : Rv → List D → Prop} : endI P .nx e = ∃ b, ioAt e = some b ∧ P (.fz .none) b := rfl
@[simp] theorem ioAt_cons {b : List D} {e : Env} : ioAt (some (.io b) :: e) = some b := rfl
/-- the promise of another def -/
def OkF (z : Option Ret) (P : Rv → Prop) : Prop := ∃ r, z = some (.ok r) ∧ P r
def endF (P : Rv → Prop) : Po Fl := fun w _ => match w with
  | .ret r => P r
  | .nx => P (.fz .none)
  | _ => False
@[simp] theorem endF_ret {P : Rv → Prop} : endF P (.ret r) e = P r := rfl
@[simp] theorem endF_nx {P : Rv → Prop} : endF P .nx e = P (.fz .none) := rfl
theorem fnF_of {body : St1} {P : Rv → Prop} (h : Ok (body (initE n ds)) (endF P)) : OkF (fnF body n ds) P := by
  obtain ⟨w, e1, h1, h3⟩ := ok_get h
  unfold fnF
  rw [h1]
  cases w with
  | ret r => exact ⟨r, rfl, h3⟩
  | nx => exact ⟨.fz .none, rfl, h3⟩
  | bk => exact h3.elim
  | ct => exact h3.elim
theorem fnF_is {body : St1} {z : Rv} (h : Ok (body (initE n ds)) (endF fun r => r = z)) : fnF body n ds = some (.ok z) := by
  obtain ⟨r, h1, rfl⟩ := fnF_of h
  exact h1
@[simp] theorem initE1 {x : D} : initE n [x] = some (.fz x) :: List.replicate (n - 1) none := rfl
@[simp] theorem initE2 {x y : D} : initE n [x, y] = some (.fz x) :: some (.fz y) :: List.replicate (n - 2) none := rfl
@[simp] theorem initE3 {x y z : D} : initE n [x, y, z] = some (.fz x) :: some (.fz y) :: some (.fz z) :: List.replicate (n - 3) none := rfl
@[simp] theorem initI0 {b : List D} : initI n b [] = some (.io b) :: List.replicate (n - 1) none := rfl
@[simp] theorem initI1 {b : List D} {x : D} : initI n b [x] = some (.io b) :: some (.fz x) :: List.replicate (n - 2) none := rfl
@[simp] theorem initI2 {b : List D} {x y : D} : initI n b [x, y] = some (.io b) :: some (.fz x) :: some (.fz y) :: List.replicate (n - 3) none := rfl
end
end VI
set_option Elab.async false
set_option linter.all false
set_option maxRecDepth 100000
set_option maxHeartbeats 4000000
namespace VI
open PySem PySem.Spec PyProof.Rows L2
section
variable {α β : Type} {e : Env} {i j n : Nat} {d x y : D} {ds xs : List D} {r : Rv} {a b c : Ev} {f g : F2} {s t u : Sem1 Bool} {p q : St1}
variable {k l m : Int}
@[simp] theorem subD_eq : subD (.int k) (.int l) = some (.fz (.int (k - l))) := rfl
@[simp] theorem addD_eq : addD (.int k) (.int l) = some (.fz (.int (k + l))) := rfl
@[simp] theorem addI_eq : addI (.int k) (.int l) = some (.fz (.int (k + l))) := rfl
@[simp] theorem addD_lst : addD (.list ds) (.list xs) = if ds.length + xs.length ≤ sizeLine then some (.fresh (ds ++ xs)) else none := rfl
@[simp] theorem addD_tup : addD (.tuple ds) (.tuple xs) = if ds.length + xs.length ≤ sizeLine then some (.fz (.tuple (ds ++ xs))) else none := rfl
@[simp] theorem mulD_eq : mulD (.int k) (.int l) = if mulOk k l then some (.fz (.int (k * l))) else none := rfl
@[simp] theorem mulI_eq : mulI (.int k) (.int l) = if mulOk k l then some (.fz (.int (k * l))) else none := by unfold mulI ii; simp only; split <;> rfl
@[simp] theorem divD_eq : divD (.int k) (.int l) = if divOk l then some (.fz (.int (k / l))) else none := by unfold divD ii; simp only; split <;> rfl
@[simp] theorem modD_eq : modD (.int k) (.int l) = if 0 < l then some (.fz (.int (k % l))) else none := by unfold modD ii; simp only; split <;> rfl
@[simp] theorem powD_eq : powD (.int k) (.int l) = if powOk k l then some (.fz (.int (k ^ l.toNat))) else none := by unfold powD ii; simp only; split <;> rfl
@[simp] theorem negD_eq : negD (.int k) = some (.fz (.int (-k))) := rfl
@[simp] theorem ltD_eq : ltD (.int k) (.int l) = some (.fz (.bool (decide (k < l)))) := rfl
@[simp] theorem leD_eq : leD (.int k) (.int l) = some (.fz (.bool (decide (k ≤ l)))) := rfl
@[simp] theorem gtD_eq : gtD (.int k) (.int l) = some (.fz (.bool (decide (l < k)))) := rfl
@[simp] theorem geD_eq : geD (.int k) (.int l) = some (.fz (.bool (decide (l ≤ k)))) := rfl
@[simp] theorem sh_int : SeqAt.shaped (.int k) = true := rfl
@[simp] theorem sh_bool {z : Bool} : SeqAt.shaped (.bool z) = true := rfl
@[simp] theorem sh_none : SeqAt.shaped .none = true := rfl
@[simp] theorem eqD_eq : eqD (.int k) (.int l) = some (.fz (.bool (decide (k = l)))) := by
  show some (Rv.fz (PyData.bool (k == l))) = _
  rfl
@[simp] theorem neD_eq : neD (.int k) (.int l) = some (.fz (.bool (!decide (k = l)))) := by
  show some (Rv.fz (PyData.bool (!(k == l)))) = _
  rfl
@[simp] theorem eqD_bool {z w : Bool} : eqD (.bool z) (.bool w) = some (.fz (.bool (z == w))) := rfl
@[simp] theorem neD_bool {z w : Bool} : neD (.bool z) (.bool w) = some (.fz (.bool (!(z == w)))) := rfl
@[simp] theorem eqD_str {z w : Str} : eqD (.str z) (.str w) = some (.fz (.bool (z == w))) := rfl
@[simp] theorem neD_str {z w : Str} : neD (.str z) (.str w) = some (.fz (.bool (!(z == w)))) := rfl
@[simp] theorem lenD_lst : lenD (.list ds) = some (.fz (.int ds.length)) := rfl
@[simp] theorem lenD_tup : lenD (.tuple ds) = some (.fz (.int ds.length)) := rfl
@[simp] theorem tupD_lst : tupD (.list ds) = some (.fz (.tuple ds)) := rfl
@[simp] theorem tupD_tup : tupD (.tuple ds) = some (.fz (.tuple ds)) := rfl
@[simp] theorem lstD_lst : lstD (.list ds) = some (.fresh ds) := rfl
@[simp] theorem lstD_tup : lstD (.tuple ds) = some (.fresh ds) := rfl
@[simp] theorem absD_eq : absD (.int k) = some (.fz (.int (if k < 0 then -k else k))) := rfl
@[simp] theorem intD_int : intD (.int k) = some (.fz (.int k)) := rfl
@[simp] theorem intD_bool {z : Bool} : intD (.bool z) = some (.fz (.int (if z then 1 else 0))) := rfl
@[simp] theorem min2_eq : min2D (.int k) (.int l) = some (.fz (.int (if l < k then l else k))) := rfl
@[simp] theorem max2_eq : max2D (.int k) (.int l) = some (.fz (.int (if l > k then l else k))) := rfl
@[simp] theorem revD_lst : revD (.list ds) = some (.fresh ds.reverse) := rfl
@[simp] theorem revD_tup : revD (.tuple ds) = some (.fz (.tuple ds.reverse)) := rfl
@[simp] theorem ixD_lst : ixD (.list ds) (.int k) = (atI ds k).map .fz := rfl
@[simp] theorem ixD_tup : ixD (.tuple ds) (.int k) = (atI ds k).map .fz := rfl
@[simp] theorem slD_lst {lo hi : Option Int} : slD (.list ds) lo hi = some (.fresh (cutD ds lo hi)) := rfl
@[simp] theorem slD_tup {lo hi : Option Int} : slD (.tuple ds) lo hi = some (.fz (.tuple (cutD ds lo hi))) := rfl
@[simp] theorem isD_eq {fs : List (D → Bool)} : isD fs d = some (.fz (.bool (fs.any fun f => f d))) := rfl
@[simp] theorem isN_eq : isND d .none = some (.fz (.bool (isNone d))) := rfl
@[simp] theorem notN_eq : notND d .none = some (.fz (.bool (!isNone d))) := rfl
@[simp] theorem allD_map {bs : List Bool} : allD (.list (bs.map .bool)) = some (.fz (.bool (bs.all id))) := by unfold allD; simp only [boolsD_map]; rfl
@[simp] theorem anyD_map {bs : List Bool} : anyD (.list (bs.map .bool)) = some (.fz (.bool (bs.any id))) := by unfold anyD; simp only [boolsD_map]; rfl
@[simp] theorem sumD_map {ns : List Int} : sumD (.list (ns.map .int)) = some (.fz (.int ns.sum)) := by unfold sumD; simp only [intsD_map]; rfl
@[simp] theorem sumD_mapT {ns : List Int} : sumD (.tuple (ns.map .int)) = some (.fz (.int ns.sum)) := by unfold sumD; simp only [intsD_map]; rfl
@[simp] theorem fmApp_eq : fmApp xs [d] = if xs.length < sizeLine then some (.none, xs ++ [d]) else none := rfl
@[simp] theorem intsOf_len {lo : Int} {n : Nat} : (intsOf lo n).length = n := by unfold intsOf; rw [List.length_map, List.length_range]
def kSr (Q : Po Src) : Po Rv := fun r e => Ok (srcR r e) Q
@[simp] theorem kSr_lst {Q : Po Src} : kSr Q (.fz (.list ds)) e = Q ⟨ds, []⟩ e := rfl
@[simp] theorem kSr_tup {Q : Po Src} : kSr Q (.fz (.tuple ds)) e = Q ⟨ds, []⟩ e := rfl
def okSr (o : Option (Option Sv)) (i : Nat) (e : Env) (Q : Po Src) : Prop := match o with
  | some (some (.fz (.list ds))) => Q ⟨ds, []⟩ e
  | some (some (.fz (.tuple ds))) => Q ⟨ds, []⟩ e
  | some (some (.lent ds)) => Q ⟨ds, []⟩ e
  | some (some (.own ds)) => Q ⟨ds, [i]⟩ (e.set i (some (.lent ds)))
  | _ => False
@[simp] theorem okSr_lst {Q : Po Src} : okSr (some (some (.fz (.list ds)))) i e Q = Q ⟨ds, []⟩ e := rfl
@[simp] theorem okSr_tup {Q : Po Src} : okSr (some (some (.fz (.tuple ds)))) i e Q = Q ⟨ds, []⟩ e := rfl
@[simp] theorem okSr_lent {Q : Po Src} : okSr (some (some (.lent ds))) i e Q = Q ⟨ds, []⟩ e := rfl
@[simp] theorem okSr_own {Q : Po Src} : okSr (some (some (.own ds))) i e Q = Q ⟨ds, [i]⟩ (e.set i (some (.lent ds))) := rfl
@[simp] theorem kSr_bor {Q : Po Src} : kSr Q (.bor i) e = okSr e[i]? i e Q := by
  unfold kSr srcR okSr
  simp only
  cases e[i]? with
  | none => rfl
  | some z => cases z with
    | none => rfl
    | some w => cases w with
      | fz d => cases d <;> rfl
      | _ => rfl
def kSc (Q : Po Src) : Po Rv := fun r e => kSr Q (calmR r) e
@[simp] theorem kSc_eq {Q : Po Src} : kSc Q r e = kSr Q (calmR r) e := rfl
@[simp] theorem ok_src {Q : Po Src} : Ok (srcE a e) Q = Ok (a e) (kSc Q) := by
  unfold srcE
  rw [ok_bind, ok_opd]; rfl
def kEn (Q : Po Src) : Po Src := fun z e => Q ⟨enumD z.items, z.lend⟩ e
@[simp] theorem kEn_eq {Q : Po Src} {z : Src} : kEn Q z e = Q ⟨enumD z.items, z.lend⟩ e := rfl
@[simp] theorem ok_enum {Q : Po Src} : Ok (enumE a e) Q = Ok (a e) (kSc (kEn Q)) := by
  unfold enumE
  rw [ok_bind, ok_opd]
  congr 1
  funext r e1
  show Ok ((srcR (calmR r) e1).bind _) Q = _
  rw [ok_bind]; rfl
def kZ4 (z : Src) (Q : Po Src) : Po Src := fun w e => Q ⟨zipD z.items w.items, w.lend ++ z.lend⟩ e
def kZ3 (s : Rv) (Q : Po Src) : Po Src := fun z e => kSr (kZ4 z Q) s e
def kZ2 (r : Rv) (Q : Po Src) : Po Rv := fun s e => kSr (kZ3 (calmR s) Q) r e
def kZ1 (b : Ev) (Q : Po Src) : Po Rv := fun r e => Ok (b e) (kZ2 (calmR r) Q)
@[simp] theorem kZ4_eq {z w : Src} {Q : Po Src} : kZ4 z Q w e = Q ⟨zipD z.items w.items, w.lend ++ z.lend⟩ e := rfl
@[simp] theorem kZ3_eq {z : Src} {Q : Po Src} : kZ3 r Q z e = kSr (kZ4 z Q) r e := rfl
@[simp] theorem kZ2_eq {s : Rv} {Q : Po Src} : kZ2 r Q s e = kSr (kZ3 (calmR s) Q) r e := rfl
@[simp] theorem kZ1_eq {Q : Po Src} : kZ1 b Q r e = Ok (b e) (kZ2 (calmR r) Q) := rfl
@[simp] theorem ok_zip {Q : Po Src} : Ok (zipE a b e) Q = Ok (a e) (kZ1 b Q) := by
  unfold zipE
  rw [ok_bind, ok_opd]
  congr 1
  funext r e1
  show Ok ((opd b e1).bind _) Q = _
  rw [ok_bind, ok_opd]
  show _ = Ok (b e1) _
  congr 1
  funext s e2
  show Ok ((srcR (calmR r) e2).bind _) Q = Ok (srcR (calmR r) e2) _
  rw [ok_bind]
  congr 1
  funext z e3
  show Ok ((srcR (calmR s) e3).bind _) Q = Ok (srcR (calmR s) e3) _
  rw [ok_bind]; rfl
def kRg (Q : Po Src) : Po Rv := fun r e => match calmR r with
  | .fz (.int j) => inR j = true ∧ Q ⟨intsOf 0 j.toNat, []⟩ e
  | _ => False
@[simp] theorem kRg_eq {Q : Po Src} : kRg Q (.fz (.int k)) e = (inR k = true ∧ Q ⟨intsOf 0 k.toNat, []⟩ e) := rfl
@[simp] theorem ok_rng1 {Q : Po Src} : Ok (rng1 a e) Q = Ok (a e) (kRg Q) := by
  unfold rng1
  rw [ok_bind, ok_opd]
  congr 1
  funext r e1
  show Ok (match calmR r with | .fz (.int j) => if inR j then .ok ⟨intsOf 0 j.toNat, []⟩ e1 else .no | _ => .no) Q = _
  unfold kRg
  cases calmR r with
  | fz d =>
    cases d <;> first | rfl | skip
    rename_i j
    by_cases h : inR j = true <;> simp [h]
  | fresh _ => rfl
  | bor _ => rfl
def kRh2 (z : Rv) (Q : Po Src) : Po Rv := fun r e => match z, calmR r with
  | .fz (.int i), .fz (.int j) => (inR i = true ∧ inR j = true) ∧ Q ⟨intsOf i (j - i).toNat, []⟩ e
  | _, _ => False
def kRh1 (b : Ev) (Q : Po Src) : Po Rv := fun r e => Ok (b e) (kRh2 (calmR r) Q)
@[simp] theorem kRh2_eq {Q : Po Src} : kRh2 (.fz (.int k)) Q (.fz (.int l)) e = ((inR k = true ∧ inR l = true) ∧ Q ⟨intsOf k (l - k).toNat, []⟩ e) := rfl
@[simp] theorem kRh1_eq {Q : Po Src} : kRh1 b Q r e = Ok (b e) (kRh2 (calmR r) Q) := rfl
@[simp] theorem ok_rng2 {Q : Po Src} : Ok (rng2 a b e) Q = Ok (a e) (kRh1 b Q) := by
  unfold rng2
  rw [ok_bind, ok_opd]
  congr 1
  funext r e1
  show Ok ((opd b e1).bind _) Q = Ok (b e1) _
  rw [ok_bind, ok_opd]
  congr 1
  funext s e2
  show Ok (match calmR r, calmR s with | .fz (.int i), .fz (.int j) => if inR i && inR j then .ok ⟨intsOf i (j - i).toNat, []⟩ e2 else .no | _, _ => .no) Q = kRh2 (calmR r) Q s e2
  unfold kRh2
  cases calmR r with
  | fz d =>
    cases d <;> first | rfl | skip
    rename_i i
    cases calmR s with
    | fz d =>
      cases d <;> first | rfl | skip
      rename_i j
      by_cases h : inR i = true <;> by_cases h2 : inR j = true <;> simp [h, h2]
    | fresh _ => rfl
    | bor _ => rfl
  | fresh _ => rfl
  | bor _ => rfl
def kFor (t : Tg) (b : St1) (Q : Po Fl) : Po Src := fun z e => Ok (turns t b z.items e) fun w e1 => Q w (unlend z.lend e1)
@[simp] theorem ok_for {it : Sem1 Src} {t : Tg} {b : St1} {Q : Po Fl} : Ok (forS it t b e) Q = Ok (it e) (kFor t b Q) := by
  unfold forS
  rw [ok_bind]
  congr 1
  funext z e1
  unfold kFor
  cases turns t b z.items e1 <;> rfl
def endT (I B : Env → Prop) (R : Rv → Env → Prop) : Po Fl := fun w e => match w with
    | .nx => I e
    | .ct => I e
    | .bk => B e
    | .ret r => R r e
@[simp] theorem endT_nx {I B : Env → Prop} {R : Rv → Env → Prop} : endT I B R .nx e = I e := rfl
@[simp] theorem endT_ct {I B : Env → Prop} {R : Rv → Env → Prop} : endT I B R .ct e = I e := rfl
@[simp] theorem endT_bk {I B : Env → Prop} {R : Rv → Env → Prop} : endT I B R .bk e = B e := rfl
@[simp] theorem endT_ret {I B : Env → Prop} {R : Rv → Env → Prop} : endT I B R (.ret r) e = R r e := rfl
def kLc (t : Tg) (c : Sem1 Bool) (elt : Ev) (own : List Nat) (Q : Po Rv) : Po Src := fun z e => (z.items.length ≤ sizeLine ∧ (∀ i ∈ t.ix, i ∈ own)) ∧ ∃ ds e2, lcTurns t c elt own z.items (wipeE e own) = some (ds, e2) ∧ Q (.fresh ds) (unlend z.lend (backE e own e2))
@[simp] theorem ok_lc {it : Sem1 Src} {t : Tg} {c : Sem1 Bool} {elt : Ev} {own : List Nat} {Q : Po Rv} : Ok (lcS it t c elt own e) Q = Ok (it e) (kLc t c elt own Q) := by
  unfold lcS
  rw [ok_bind]
  congr 1
  funext z e1
  unfold kLc
  by_cases h : z.items.length ≤ sizeLine ∧ (∀ i ∈ t.ix, i ∈ own)
  · rw [if_pos h]
    cases hl : lcTurns t c elt own z.items (wipeE e1 own) with
    | none => exact propext ⟨fun q => q.elim, fun ⟨_, _, _, h1, _⟩ => by cases h1⟩
    | some w =>
      obtain ⟨ds, e2⟩ := w
      exact propext ⟨fun q => ⟨h, ds, e2, rfl, q⟩, fun ⟨_, _, _, h1, q⟩ => by cases h1; exact q⟩
  · rw [if_neg h]
    exact propext ⟨fun q => q.elim, fun q => absurd q.1 h⟩
/-- THE RULE: a comprehension without a test, item by item; P is told of each -/
theorem lc_ok {t : Tg} {elt : Ev} {own : List Nat} {P : D → D → Prop} : ∀ {items : List D} {e : Env} (I : Nat → Env → Prop), I 0 e →
    (∀ i d e, items[i]? = some d → I i e → ∃ e1, t.run d e = some e1 ∧ Ok (elt e1) (kFrz fun y e2 => P d y ∧ I (i + 1) (wipeE e2 own))) →
    ∃ ys e2, lcTurns t yesT elt own items e = some (ys, e2) ∧ Paired P items ys ∧ I items.length e2
  | [], e, I, h0, _ => ⟨[], e, rfl, .nil, h0⟩
  | d :: ds, e, I, h0, hs => by
    obtain ⟨e1, h1, h2⟩ := hs 0 d e rfl h0
    rw [← ok_toD] at h2
    obtain ⟨y, e2, h3, h4, h5⟩ := ok_get h2
    obtain ⟨ys, e3, k1, k2, k3⟩ := lc_ok (items := ds) (fun i => I (i + 1)) h5 (fun i d e hi => hs (i + 1) d e hi)
    refine ⟨y :: ys, e3, ?_, .cons h4 k2, k3⟩
    unfold lcTurns
    rw [h1]
    have hy : yesT e1 = .ok true e1 := rfl
    simp only [hy, h3, k1]
    rfl
/-- .. that changes nothing: a map -/
theorem lc_map {t : Tg} {elt : Ev} {own : List Nat} {items : List D} {e : Env} (h : D → D)
    (hs : ∀ d ∈ items, ∃ e1, t.run d e = some e1 ∧ Ok (elt e1) (kFrz fun y e2 => y = h d ∧ wipeE e2 own = e)) : lcTurns t yesT elt own items e = some (items.map h, e) := by
  obtain ⟨ys, e2, k1, k2, k3⟩ := lc_ok (t := t) (elt := elt) (own := own) (items := items) (e := e) (P := fun d y => y = h d) (fun _ e' => e' = e) rfl (fun i d e' hi he => by
    subst he
    obtain ⟨e1, h1, h2⟩ := hs d (List.mem_of_getElem? hi)
    exact ⟨e1, h1, h2⟩)
  subst k3
  have : ys = items.map h := by
    clear k1 hs
    induction k2 with
    | nil => rfl
    | cons a _ ih => rw [List.map_cons, ← ih, a]
  rw [k1, this]
end
end VI
set_option Elab.async false
set_option linter.all false
set_option maxRecDepth 100000
set_option maxHeartbeats 4000000
namespace VI
open PySem PySem.Spec PyProof.Rows L2
theorem lay_ints : ∀ ns : List Int, PyData.canLayAll0 (ns.map PyData.int) = true
  | [] => by simp only [List.map_nil, PyData.canLayAll0]
  | n :: ns => by
    rw [List.map_cons]
    simp only [PyData.canLayAll0, PyData.canLay0, Bool.true_and]
    exact lay_ints ns
theorem deep_ints : ∀ ns : List Int, PyData.depthAll (ns.map PyData.int) = 0
  | [] => by simp only [List.map_nil, PyData.depthAll]
  | n :: ns => by
    rw [List.map_cons]
    simp only [PyData.depthAll, PyData.depth, deep_ints ns]
    rfl
theorem eqv_ints : ∀ as bs : List Int, PyData.eqvAll (as.map PyData.int) (bs.map PyData.int) = decide (as = bs)
  | [], [] => by simp [PyData.eqvAll]
  | a :: as, [] => by simp [PyData.eqvAll]
  | [], b :: bs => by simp [PyData.eqvAll]
  | a :: as, b :: bs => by
    rw [List.map_cons, List.map_cons]
    simp only [PyData.eqvAll, PyData.eqv, eqv_ints as bs]
    by_cases h : a = b <;> by_cases h2 : as = bs <;> simp [h, h2]
@[simp] theorem sh_ints (ns : List Int) : SeqAt.shaped (.list (ns.map PyData.int)) = true := by
  unfold SeqAt.shaped
  simp only [PyData.canLay0, PyData.depth, lay_ints, deep_ints]
  rfl
@[simp] theorem sh_intsT (ns : List Int) : SeqAt.shaped (.tuple (ns.map PyData.int)) = true := by
  unfold SeqAt.shaped
  simp only [PyData.canLay0, PyData.depth, lay_ints, deep_ints]
  rfl
@[simp] theorem eqD_ints {as bs : List Int} : eqD (.list (as.map PyData.int)) (.list (bs.map PyData.int)) = some (.fz (.bool (decide (as = bs)))) := by
  unfold eqD
  rw [sh_ints, sh_ints]
  simp only [Bool.and_self, Bool.or_true, if_true, PyData.eqv, eqv_ints]
@[simp] theorem eqD_intsT {as bs : List Int} : eqD (.tuple (as.map PyData.int)) (.tuple (bs.map PyData.int)) = some (.fz (.bool (decide (as = bs)))) := by
  unfold eqD
  rw [sh_intsT, sh_intsT]
  simp only [Bool.and_self, Bool.or_true, if_true, PyData.eqv, eqv_ints]
@[simp] theorem neD_ints {as bs : List Int} : neD (.list (as.map PyData.int)) (.list (bs.map PyData.int)) = some (.fz (.bool (!decide (as = bs)))) := by
  unfold neD
  rw [sh_ints, sh_ints]
  simp only [Bool.and_self, Bool.or_true, if_true, PyData.eqv, eqv_ints]
@[simp] theorem neD_intsT {as bs : List Int} : neD (.tuple (as.map PyData.int)) (.tuple (bs.map PyData.int)) = some (.fz (.bool (!decide (as = bs)))) := by
  unfold neD
  rw [sh_intsT, sh_intsT]
  simp only [Bool.and_self, Bool.or_true, if_true, PyData.eqv, eqv_ints]
@[simp] theorem neD_ints0 {as : List Int} : neD (.list (as.map PyData.int)) (.list []) = some (.fz (.bool (!decide (as = [])))) := neD_ints (bs := [])
@[simp] theorem eqD_ints0 {as : List Int} : eqD (.list (as.map PyData.int)) (.list []) = some (.fz (.bool (decide (as = [])))) := eqD_ints (bs := [])
end VI
set_option Elab.async false
set_option linter.all false
set_option maxRecDepth 100000
set_option maxHeartbeats 4000000
namespace VI
open PySem PySem.Spec PyProof.Rows L2
mutual
/-- no dict; texts of true characters; numbers of at most B bits -/
def good (B : Nat) : D → Bool
  | .none => true
  | .bool _ => true
  | .int i => decide (i.natAbs < 2 ^ B)
  | .str x => PyData.strOk x
  | .list xs => goodAll B xs
  | .tuple xs => goodAll B xs
  | .dict _ => false
def goodAll (B : Nat) : List D → Bool
  | [] => true
  | x :: xs => good B x && goodAll B xs
end
theorem goodAll_iff {B : Nat} : ∀ {xs : List D}, goodAll B xs = true ↔ ∀ x ∈ xs, good B x = true
  | [] => by simp [goodAll]
  | x :: xs => by simp [goodAll, goodAll_iff (xs := xs)]
mutual
theorem good_mono {B B' : Nat} (hB : B ≤ B') : ∀ d : D, good B d = true → good B' d = true
  | .none, _ => by simp only [good]
  | .bool _, _ => by simp only [good]
  | .int i, h => by
    simp only [good, decide_eq_true_eq] at h ⊢
    exact Nat.lt_of_lt_of_le h (Nat.pow_le_pow_right (by omega) hB)
  | .str _, h => by simpa only [good] using h
  | .list xs, h => by simp only [good] at h ⊢; exact goodAll_mono hB xs h
  | .tuple xs, h => by simp only [good] at h ⊢; exact goodAll_mono hB xs h
  | .dict _, h => by simp [good] at h
theorem goodAll_mono {B B' : Nat} (hB : B ≤ B') : ∀ xs : List D, goodAll B xs = true → goodAll B' xs = true
  | [], _ => by simp only [goodAll]
  | x :: xs, h => by
    simp only [goodAll, Bool.and_eq_true] at h ⊢
    exact ⟨good_mono hB x h.1, goodAll_mono hB xs h.2⟩
end
mutual
theorem good_lay {B : Nat} : ∀ d : D, good B d = true → d.canLay0 = true
  | .none, _ => by simp only [PyData.canLay0]
  | .bool _, _ => by simp only [PyData.canLay0]
  | .int i, h => by simp only [PyData.canLay0]
  | .str _, h => by simpa only [good, PyData.canLay0] using h
  | .list xs, h => by simp only [good, PyData.canLay0] at h ⊢; exact goodAll_lay xs h
  | .tuple xs, h => by simp only [good, PyData.canLay0] at h ⊢; exact goodAll_lay xs h
  | .dict _, h => by simp [good] at h
theorem goodAll_lay {B : Nat} : ∀ xs : List D, goodAll B xs = true → PyData.canLayAll0 xs = true
  | [], _ => by simp only [PyData.canLayAll0]
  | x :: xs, h => by
    simp only [goodAll, PyData.canLayAll0, Bool.and_eq_true] at h ⊢
    exact ⟨good_lay x h.1, goodAll_lay xs h.2⟩
end
theorem log2_of_lt {n B : Nat} (hB : 0 < B) (h : n < 2 ^ B) : n.log2 < B := by
  by_cases h0 : n = 0
  · subst h0; exact hB
  · exact (Nat.log2_lt h0).mpr h
mutual
theorem good_short {B : Nat} (hB : 0 < B) : ∀ d : D, good B d = true → d.intsShort (B + 1) = true
  | .none, _ => by simp only [PyData.intsShort]
  | .bool _, _ => by simp only [PyData.intsShort]
  | .int i, h => by
    simp only [good, PyData.intsShort, decide_eq_true_eq] at h ⊢
    show (Str.ofString (toString i)).length ≤ _
    rw [PySem.ofString_length]
    exact int_text_length_le hB (log2_of_lt hB h)
  | .str _, h => by simp only [PyData.intsShort]
  | .list xs, h => by simp only [good, PyData.intsShort] at h ⊢; exact goodAll_short hB xs h
  | .tuple xs, h => by simp only [good, PyData.intsShort] at h ⊢; exact goodAll_short hB xs h
  | .dict _, h => by simp [good] at h
theorem goodAll_short {B : Nat} (hB : 0 < B) : ∀ xs : List D, goodAll B xs = true → PyData.intsShortAll (B + 1) xs = true
  | [], _ => by simp only [PyData.intsShortAll]
  | x :: xs, h => by
    simp only [goodAll, PyData.intsShortAll, Bool.and_eq_true] at h ⊢
    exact ⟨good_short hB x h.1, goodAll_short hB xs h.2⟩
end
mutual
theorem good_showable {B : Nat} (hB : 0 < B) (hB2 : B ≤ 1920) : ∀ d : D, good B d = true → d.showable = true
  | .none, _ => by simp only [PyData.showable]
  | .bool _, _ => by simp only [PyData.showable]
  | .int i, h => by
    simp only [good, PyData.showable, decide_eq_true_eq] at h ⊢
    exact Nat.lt_of_lt_of_le (log2_of_lt hB h) hB2
  | .str _, h => by simp only [PyData.showable]
  | .list xs, h => by simp only [good, PyData.showable] at h ⊢; exact goodAll_showable hB hB2 xs h
  | .tuple xs, h => by simp only [good, PyData.showable] at h ⊢; exact goodAll_showable hB hB2 xs h
  | .dict _, h => by simp [good] at h
theorem goodAll_showable {B : Nat} (hB : 0 < B) (hB2 : B ≤ 1920) : ∀ xs : List D, goodAll B xs = true → PyData.showableAll xs = true
  | [], _ => by simp only [PyData.showableAll]
  | x :: xs, h => by
    simp only [goodAll, PyData.showableAll, Bool.and_eq_true] at h ⊢
    exact ⟨good_showable hB hB2 x h.1, goodAll_showable hB hB2 xs h.2⟩
end
/-- a datum of such a size -/
structure Sz (B W N : Nat) (d : D) : Prop where
  good : good B d = true
  wt : d.weight ≤ W
  dp : d.depth ≤ N
theorem Sz.mono {B B' W W' N N' : Nat} {d : D} (h : Sz B W N d) (hB : B ≤ B') (hW : W ≤ W') (hN : N ≤ N') : Sz B' W' N' d := ⟨good_mono hB d h.good, Nat.le_trans h.wt hW, Nat.le_trans h.dp hN⟩
theorem Sz.shaped {B W N : Nat} {d : D} (h : Sz B W N d) (hN : N ≤ 64) : SeqAt.shaped d = true := by
  unfold SeqAt.shaped
  rw [good_lay d h.good, Bool.true_and]
  exact decide_eq_true (Nat.le_trans h.dp hN)
theorem Sz.eqv {B W N : Nat} {d : D} (h : Sz B W N d) : PyData.eqv d d = true := SeqAt.eqv_refl d (good_lay d h.good)
theorem weight_int (i : Int) {B : Nat} (h : i.natAbs < 2 ^ B) : (PyData.int i).weight ≤ B := by
  simp only [PyData.weight]
  split
  · omega
  · rename_i h0
    have h0 : i.natAbs ≠ 0 := by
      have : i ≠ 0 := by simpa using h0
      omega
    exact (Nat.log2_lt h0).mpr h
theorem Sz.int {i : Int} {B N : Nat} (h : i.natAbs < 2 ^ B) : Sz B B N (.int i) := ⟨by simp only [VI.good, decide_eq_true_eq]; exact h, weight_int i h, by simp only [PyData.depth]; omega⟩
/-- the whole of a list -/
structure SzAll (B W N : Nat) (ds : List D) : Prop where
  good : goodAll B ds = true
  wt : PyData.weightAll ds ≤ W
  dp : PyData.depthAll ds ≤ N
theorem Sz.list {B W N : Nat} {ds : List D} (h : SzAll B W N ds) : Sz B W (N + 1) (.list ds) := ⟨by simp only [VI.good]; exact h.good, by simp only [PyData.weight]; exact h.wt, by simp only [PyData.depth]; exact Nat.succ_le_succ h.dp⟩
theorem Sz.tuple {B W N : Nat} {ds : List D} (h : SzAll B W N ds) : Sz B W (N + 1) (.tuple ds) := ⟨by simp only [VI.good]; exact h.good, by simp only [PyData.weight]; exact h.wt, by simp only [PyData.depth]; exact Nat.succ_le_succ h.dp⟩
theorem Sz.of_list {B W N : Nat} {ds : List D} (h : Sz B W N (.list ds)) : SzAll B W (N - 1) ds ∧ 0 < N := by
  have h1 := h.good; have h2 := h.wt; have h3 := h.dp
  simp only [VI.good, PyData.weight, PyData.depth] at h1 h2 h3
  exact ⟨⟨h1, h2, by omega⟩, by omega⟩
theorem Sz.of_tuple {B W N : Nat} {ds : List D} (h : Sz B W N (.tuple ds)) : SzAll B W (N - 1) ds ∧ 0 < N := by
  have h1 := h.good; have h2 := h.wt; have h3 := h.dp
  simp only [VI.good, PyData.weight, PyData.depth] at h1 h2 h3
  exact ⟨⟨h1, h2, by omega⟩, by omega⟩
theorem SzAll.nil {B W N : Nat} : SzAll B W N [] := ⟨by simp only [goodAll], by simp only [PyData.weightAll]; omega, by simp only [PyData.depthAll]; omega⟩
theorem SzAll.cons {B W W' N : Nat} {d : D} {ds : List D} (h : Sz B W N d) (r : SzAll B W' N ds) : SzAll B (W + 1 + W') N (d :: ds) :=
  ⟨by simp only [goodAll, h.good, r.good, Bool.and_self], by have := h.wt; have := r.wt; simp only [PyData.weightAll]; omega, by simp only [PyData.depthAll]; exact Nat.max_le.mpr ⟨h.dp, r.dp⟩⟩
theorem SzAll.mono {B B' W W' N N' : Nat} {d : List D} (h : SzAll B W N d) (hB : B ≤ B') (hW : W ≤ W') (hN : N ≤ N') : SzAll B' W' N' d := ⟨goodAll_mono hB d h.good, Nat.le_trans h.wt hW, Nat.le_trans h.dp hN⟩
theorem weightAll_append : ∀ xs ys : List D, PyData.weightAll (xs ++ ys) = PyData.weightAll xs + PyData.weightAll ys
  | [], ys => by simp only [List.nil_append, PyData.weightAll]; omega
  | x :: xs, ys => by simp only [List.cons_append, PyData.weightAll, weightAll_append xs ys]; omega
theorem depthAll_append : ∀ xs ys : List D, PyData.depthAll (xs ++ ys) = max (PyData.depthAll xs) (PyData.depthAll ys)
  | [], ys => by simp only [List.nil_append, PyData.depthAll]; omega
  | x :: xs, ys => by simp only [List.cons_append, PyData.depthAll, depthAll_append xs ys]; omega
theorem SzAll.append {B W W' N : Nat} {xs ys : List D} (h : SzAll B W N xs) (r : SzAll B W' N ys) : SzAll B (W + W') N (xs ++ ys) :=
  ⟨goodAll_iff.mpr fun x hx => by
      rcases List.mem_append.mp hx with hx | hx
      · exact goodAll_iff.mp h.good x hx
      · exact goodAll_iff.mp r.good x hx, by have := h.wt; have := r.wt; rw [weightAll_append]; omega, by rw [depthAll_append]; exact Nat.max_le.mpr ⟨h.dp, r.dp⟩⟩
theorem SzAll.split {B W N : Nat} {xs ys : List D} (h : SzAll B W N (xs ++ ys)) : SzAll B (PyData.weightAll xs) N xs ∧ SzAll B (PyData.weightAll ys) N ys ∧ PyData.weightAll xs + PyData.weightAll ys ≤ W := by
  have h2 := h.wt; have h3 := h.dp
  rw [weightAll_append] at h2
  rw [depthAll_append] at h3
  exact ⟨⟨goodAll_iff.mpr fun x hx => goodAll_iff.mp h.good x (List.mem_append_left _ hx), Nat.le_refl _, by omega⟩, ⟨goodAll_iff.mpr fun x hx => goodAll_iff.mp h.good x (List.mem_append_right _ hx), Nat.le_refl _, by omega⟩, h2⟩
theorem SzAll.take {B W N : Nat} {xs : List D} (h : SzAll B W N xs) (n : Nat) : SzAll B W N (xs.take n) := by
  rw [← List.take_append_drop n xs] at h
  obtain ⟨h1, h2, h3⟩ := h.split
  exact h1.mono (Nat.le_refl _) (by omega) (Nat.le_refl _)
theorem SzAll.drop {B W N : Nat} {xs : List D} (h : SzAll B W N xs) (n : Nat) : SzAll B W N (xs.drop n) := by
  rw [← List.take_append_drop n xs] at h
  obtain ⟨h1, h2, h3⟩ := h.split
  exact h2.mono (Nat.le_refl _) (by omega) (Nat.le_refl _)
theorem SzAll.cut {B W N : Nat} {xs : List D} (h : SzAll B W N xs) (lo hi : Option Int) : SzAll B W N (cutD xs lo hi) := (h.drop _).take _
/-- an item, and the list without it -/
theorem SzAll.at {B W N : Nat} {xs : List D} (h : SzAll B W N xs) {i : Nat} {d : D} (hi : xs[i]? = some d) : Sz B d.weight N d ∧ d.weight + 1 ≤ W ∧ ∀ {B' W' N' : Nat} {d' : D}, Sz B' W' N' d' → B ≤ B' → N ≤ N' → SzAll B' (W - d.weight + W') N' (xs.set i d') := by
  have hlt := (List.getElem?_eq_some_iff.mp hi).1
  have hd : xs = xs.take i ++ d :: xs.drop (i + 1) := by
    have h1 := List.take_append_drop i xs
    rw [List.drop_eq_getElem_cons hlt] at h1
    have h2 := (List.getElem?_eq_some_iff.mp hi).2
    rw [h2] at h1
    exact h1.symm
  have h' := h
  rw [hd] at h'
  obtain ⟨h1, h2, h3⟩ := h'.split
  have g2 := h2.good; have d2 := h2.dp
  simp only [goodAll, Bool.and_eq_true, PyData.depthAll] at g2 d2
  simp only [PyData.weightAll] at h3
  refine ⟨⟨g2.1, Nat.le_refl _, by omega⟩, by omega, fun {B' W' N' d'} z hB hN => ?_⟩
  have e : xs.set i d' = xs.take i ++ d' :: xs.drop (i + 1) := List.set_eq_take_append_cons_drop .. |>.trans (by rw [if_pos hlt])
  rw [e]
  have r2 : SzAll B' (PyData.weightAll (xs.drop (i + 1))) N' (xs.drop (i + 1)) := ⟨goodAll_mono hB _ g2.2, Nat.le_refl _, by omega⟩
  exact (((h1.mono hB (Nat.le_refl _) hN).append (.cons z r2))).mono (Nat.le_refl _) (by omega) (Nat.le_refl _)
theorem len_le_weight : ∀ ds : List D, ds.length ≤ PyData.weightAll ds
  | [] => by simp [PyData.weightAll]
  | d :: ds => by have := len_le_weight ds; simp only [List.length_cons, PyData.weightAll]; omega
theorem ixN_nat {n i : Nat} (h : i < n) : ixN n (i : Int) = some i := by
  unfold ixN
  rw [if_pos (by omega), if_pos (by omega)]; rfl
end VI
set_option Elab.async false
set_option linter.all false
set_option maxRecDepth 100000
set_option maxHeartbeats 4000000
namespace VI
open PySem PySem.Spec PyProof.Rows L2
theorem mulD_repL (x : D) {k : Nat} (h2 : k ≤ 1000) : mulD (.list [x]) (.int k) = some (.fresh (List.replicate k x)) := by
  show (if -1000 ≤ (k : Int) ∧ (k : Int) ≤ 1000 ∧ [x].length ≤ 1000 then some (Rv.fresh (List.replicate (k : Int).toNat [x]).flatten) else none) = _
  rw [if_pos ⟨by omega, by omega, by simp⟩, Int.toNat_natCast, List.flatten_replicate_singleton]
theorem SzAll.rep {B W N : Nat} {x : D} (h : Sz B W N x) : ∀ k : Nat, SzAll B ((W + 1) * k) N (List.replicate k x)
  | 0 => .nil
  | k + 1 => by
    rw [List.replicate_succ]
    exact (SzAll.cons h (SzAll.rep h k)).mono (Nat.le_refl _) (by rw [Nat.mul_add, Nat.mul_one]; omega) (Nat.le_refl _)
section
variable {e : Env} {d : D} {ds : List D}
/-- a slot that may be stored to -/
def Fr : Option Sv → Prop := fun o => match o with
  | some (.lent _) => False
  | some (.io _) => False
  | some (.tr _ _) => False
  | _ => True
@[simp] theorem Fr_none : Fr none = True := rfl
@[simp] theorem Fr_fz : Fr (some (.fz d)) = True := rfl
@[simp] theorem Fr_own : Fr (some (.own ds)) = True := rfl
theorem okP_fr {o : Option Sv} (h : Fr o) {i : Nat} {z : Sv} {Q : Po Fl} : okP (some o) i z e Q = Q .nx (e.set i (some z)) := by
  cases o with
  | none => rfl
  | some x => cases x <;> first | rfl | exact h.elim
/-- what a block's own name is behind it -/
def bkO : Option Sv → Option Sv := fun o => match o with
  | some (.fz d) => some (.fz d)
  | _ => none
@[simp] theorem Fr_bkO {o : Option Sv} : Fr (bkO o) = True := by
  cases o with
  | none => rfl
  | some x => cases x <;> rfl
@[simp] theorem bkO_none : bkO none = none := rfl
@[simp] theorem bkO_fz : bkO (some (.fz d)) = some (.fz d) := rfl
@[simp] theorem bkO_own : bkO (some (.own ds)) = none := rfl
def bakS (o : Option (Option Sv)) (i : Nat) (e : Env) : Env := match o with
  | some o => e.set i (bkO o)
  | none => e.set i none
@[simp] theorem bkS_some {o : Option Sv} {i : Nat} : bakS (some o) i e = e.set i (bkO o) := rfl
@[simp] theorem backE_nil {e0 : Env} : backE e0 [] e = e := rfl
@[simp] theorem backE_cons {e0 : Env} {i : Nat} {is : List Nat} : backE e0 (i :: is) e = bakS e0[i]? i (backE e0 is e) := by
  show (match e0[i]? with | some (some (.fz d)) => (backE e0 is e).set i (some (.fz d)) | _ => (backE e0 is e).set i none) = _
  cases e0[i]? with
  | none => rfl
  | some o => cases o with
    | none => rfl
    | some x => cases x <;> rfl
@[simp] theorem wipeE_nil : wipeE e [] = e := rfl
@[simp] theorem wipeE_cons {i : Nat} {is : List Nat} : wipeE e (i :: is) = (wipeE e is).set i none := rfl
@[simp] theorem unlend_is0 : unlend [] e = e := rfl
def unlS (is : List Nat) (o : Option (Option Sv)) (i : Nat) (e : Env) : Env := match o with
  | some (some (.lent ds)) => unlend is (e.set i (some (.own ds)))
  | _ => unlend is e
@[simp] theorem unS_lent {is : List Nat} {i : Nat} : unlS is (some (some (.lent ds))) i e = unlend is (e.set i (some (.own ds))) := rfl
@[simp] theorem unlend_is {i : Nat} {is : List Nat} : unlend (i :: is) e = unlS is e[i]? i e := by
  show (match e[i]? with | some (some (.lent ds)) => unlend is (e.set i (some (.own ds))) | _ => unlend is e) = _
  unfold unlS
  cases e[i]? with
  | none => rfl
  | some o => cases o with
    | none => rfl
    | some x => cases x <;> rfl
def kCy (own : List Nat) (J : List D → Env → Prop) (ys : List D) : Po D := fun y e => J (ys ++ [y]) (wipeE e own)
@[simp] theorem kCy_eq {own : List Nat} {J : List D → Env → Prop} {ys : List D} : kCy own J ys d e = J (ys ++ [d]) (wipeE e own) := rfl
def kCt (elt : Ev) (own : List Nat) (J : List D → Env → Prop) (ys : List D) : Po Bool := fun w e => if w then Ok (elt e) (kFrz (kCy own J ys)) else J ys (wipeE e own)
@[simp] theorem kCt_t {elt : Ev} {own : List Nat} {J : List D → Env → Prop} {ys : List D} : kCt elt own J ys true e = Ok (elt e) (kFrz (kCy own J ys)) := rfl
@[simp] theorem kCt_f {elt : Ev} {own : List Nat} {J : List D → Env → Prop} {ys : List D} : kCt elt own J ys false e = J ys (wipeE e own) := rfl
@[simp] theorem kCt_d {m : Prop} [Decidable m] {elt : Ev} {own : List Nat} {J : List D → Env → Prop} {ys : List D} : kCt elt own J ys (decide m) e = if m then Ok (elt e) (kFrz (kCy own J ys)) else J ys (wipeE e own) := by by_cases h : m <;> simp [h, kCt]
theorem lcTurns_ok {t : Tg} {c : Sem1 Bool} {elt : Ev} {own : List Nat} : ∀ {items : List D} {e : Env} {ys : List D} (J : Nat → List D → Env → Prop), J 0 ys e →
    (∀ i d ys e, items[i]? = some d → J i ys e → ∃ e1, t.run d e = some e1 ∧ Ok (c e1) (kCt elt own (J (i + 1)) ys)) →
    ∃ zs e2, lcTurns t c elt own items e = some (zs, e2) ∧ J items.length (ys ++ zs) e2
  | [], e, ys, J, h0, _ => ⟨[], e, rfl, by rw [List.append_nil]; exact h0⟩
  | d :: ds, e, ys, J, h0, hs => by
    obtain ⟨e1, h1, h2⟩ := hs 0 d ys e rfl h0
    obtain ⟨w, e2, h3, h4⟩ := ok_get h2
    unfold lcTurns
    rw [h1]
    simp only [h3]
    cases w with
    | false =>
      obtain ⟨zs, e3, k1, k2⟩ := lcTurns_ok (items := ds) (fun i => J (i + 1)) h4 (fun i d ys e hi => hs (i + 1) d ys e hi)
      exact ⟨zs, e3, k1, k2⟩
    | true =>
      have h4 : Ok (elt e2) (kFrz (kCy own (J (0 + 1)) ys)) := h4
      rw [← ok_toD] at h4
      obtain ⟨y, e3, h5, h6⟩ := ok_get h4
      obtain ⟨zs, e4, k1, k2⟩ := lcTurns_ok (items := ds) (fun i => J (i + 1)) h6 (fun i d ys e hi => hs (i + 1) d ys e hi)
      refine ⟨y :: zs, e4, ?_, by rw [List.append_assoc] at k2; exact k2⟩
      simp only [h5, k1]
      rfl
/-- THE RULE for a comprehension: J i ys e ahead of the i-th item, ys found so far -/
theorem lcG_ok {t : Tg} {c : Sem1 Bool} {elt : Ev} {own : List Nat} {Q : Po Rv} {z : Src} (J : Nat → List D → Env → Prop) (hl : z.items.length ≤ sizeLine) (hi : ∀ i ∈ t.ix, i ∈ own) (h0 : J 0 [] (wipeE e own))
    (hs : ∀ i d ys e, z.items[i]? = some d → J i ys e → ∃ e1, t.run d e = some e1 ∧ Ok (c e1) (kCt elt own (J (i + 1)) ys))
    (hq : ∀ ys e2, J z.items.length ys e2 → Q (.fresh ys) (unlend z.lend (backE e own e2))) : kLc t c elt own Q z e := by
  obtain ⟨zs, e2, k1, k2⟩ := lcTurns_ok J h0 hs
  exact ⟨⟨hl, hi⟩, zs, e2, k1, hq _ _ k2⟩
@[simp] theorem ok_yes' {elt : Ev} {own : List Nat} {J : List D → Env → Prop} {ys : List D} : Ok (yesT e) (kCt elt own J ys) = Ok (elt e) (kFrz (kCy own J ys)) := rfl
/-- .. of a map -/
theorem lcM_ok {t : Tg} {elt : Ev} {own : List Nat} {Q : Po Rv} {z : Src} (h : D → D) (hl : z.items.length ≤ sizeLine) (hi : ∀ i ∈ t.ix, i ∈ own)
    (hs : ∀ d ∈ z.items, ∃ e1, t.run d (wipeE e own) = some e1 ∧ Ok (elt e1) (kFrz fun y e2 => y = h d ∧ wipeE e2 own = wipeE e own))
    (hq : Q (.fresh (z.items.map h)) (unlend z.lend (backE e own (wipeE e own)))) : kLc t yesT elt own Q z e :=
  ⟨⟨hl, hi⟩, _, _, lc_map h hs, hq⟩
def kBrk (l : List Nat) (Q : Po Fl) : Env → Prop := fun e => Q .nx (unlend l e)
def kRtn (l : List Nat) (Q : Po Fl) : Rv → Env → Prop := fun r e => Q (.ret r) (unlend l e)
@[simp] theorem kBrk_eq {l : List Nat} {Q : Po Fl} : kBrk l Q e = Q .nx (unlend l e) := rfl
@[simp] theorem kRtn_eq {l : List Nat} {Q : Po Fl} {r : Rv} : kRtn l Q r e = Q (.ret r) (unlend l e) := rfl
abbrev noB : Env → Prop := fun _ => False
abbrev noR : Rv → Env → Prop := fun _ _ => False
def kWh (b : St1) (J : Env → Prop) (E : Env → Prop) : Po Bool := fun w e => if w then Ok (b e) (endT J noB noR) else E e
@[simp] theorem kWh_t {b : St1} {J E : Env → Prop} : kWh b J E true e = Ok (b e) (endT J noB noR) := rfl
@[simp] theorem kWh_f {b : St1} {J E : Env → Prop} : kWh b J E false e = E e := rfl
@[simp] theorem kWh_d {m : Prop} [Decidable m] {b : St1} {J E : Env → Prop} : kWh b J E (decide m) e = if m then Ok (b e) (endT J noB noR) else E e := by by_cases h : m <;> simp [h, kWh]
@[simp] theorem kWh_nd {m : Prop} [Decidable m] {b : St1} {J E : Env → Prop} : kWh b J E (!decide m) e = if m then E e else Ok (b e) (endT J noB noR) := by by_cases h : m <;> simp [h, kWh]
end
end VI
set_option Elab.async false
set_option linter.all false
set_option maxRecDepth 100000
set_option maxHeartbeats 4000000
namespace VI
open PySem PySem.Spec PyProof.Rows L2
@[simp] theorem szE : sizeLine = 16777216 := sizeLine_eq
@[simp] theorem atI_0 {x : D} {xs : List D} : atI (x :: xs) 0 = some x := by
  unfold atI
  rw [show ixN (x :: xs).length 0 = some 0 from ixN_nat (by simp)]; rfl
@[simp] theorem atI_1 {x y : D} {xs : List D} : atI (x :: y :: xs) 1 = some y := by
  unfold atI
  rw [show ixN (x :: y :: xs).length 1 = some 1 from ixN_nat (i := 1) (by simp)]; rfl
@[simp] theorem atI_2 {x y z : D} {xs : List D} : atI (x :: y :: z :: xs) 2 = some z := by
  unfold atI
  rw [show ixN (x :: y :: z :: xs).length 2 = some 2 from ixN_nat (i := 2) (by simp)]; rfl
section
variable {e : Env} {d : D} {ds : List D} {i : Nat} {o : Option Sv}
def putP (o : Option (Option Sv)) (i : Nat) (d : D) (e : Env) : Option Env := match o with
  | some (some (.lent _)) => none
  | some (some (.io _)) => none
  | some (some (.tr _ _)) => none
  | some _ => some (e.set i (some (.fz d)))
  | none => none
@[simp] theorem putP_none : putP (some none) i d e = some (e.set i (some (.fz d))) := rfl
@[simp] theorem putP_fz {d' : D} : putP (some (some (.fz d'))) i d e = some (e.set i (some (.fz d))) := rfl
@[simp] theorem putP_own : putP (some (some (.own ds))) i d e = some (e.set i (some (.fz d))) := rfl
@[simp] theorem put_P : put i d e = putP e[i]? i d e := by
  unfold put freeAt putP
  cases e[i]? with
  | none => rfl
  | some o => cases o with
    | none => rfl
    | some x => cases x <;> rfl
@[simp] theorem tgV_run : (tgV i).run d e = put i d e := rfl
@[simp] theorem tgT_run {ts : List Tg} : (tgT ts).run (.tuple ds) e = tgRun ts ds e := rfl
@[simp] theorem tgT_runL {ts : List Tg} : (tgT ts).run (.list ds) e = tgRun ts ds e := rfl
@[simp] theorem tgRun_nil : tgRun [] [] e = some e := rfl
@[simp] theorem tgRun_cons {t : Tg} {ts : List Tg} : tgRun (t :: ts) (d :: ds) e = (t.run d e).bind fun e1 => tgRun ts ds e1 := rfl
def okTg (o : Option Env) (Q : Po Fl) : Prop := match o with
  | none => False
  | some e1 => Q .nx e1
@[simp] theorem okTg_some {Q : Po Fl} : okTg (some e) Q = Q .nx e := rfl
def kTg (t : Tg) (Q : Po Fl) : Po D := fun d e => okTg (t.run d e) Q
@[simp] theorem kTg_eq {t : Tg} {Q : Po Fl} : kTg t Q d e = okTg (t.run d e) Q := rfl
@[simp] theorem ok_asgT {t : Tg} {a : Ev} {Q : Po Fl} : Ok (asgTS t a e) Q = Ok (a e) (kFrz (kTg t Q)) := by
  unfold asgTS
  rw [ok_bind, ok_toD]
  congr 2
  funext d e1
  show _ = okTg (t.run d e1) Q
  cases t.run d e1 <;> rfl
end
@[simp] theorem fmPop_eq {xs : List D} : fmPop xs [] = (xs.getLast?).map fun d => (d, xs.dropLast) := rfl
/-- f writes plain values as data of depth at most k; == tells them apart -/
structure Enc {α : Type} [DecidableEq α] (k : Nat) (f : α → D) : Prop where
  eqv : ∀ a b, PyData.eqv (f a) (f b) = decide (a = b)
  lay : ∀ a, (f a).canLay0 = true
  dp : ∀ a, (f a).depth ≤ k
section
variable {α β : Type} [DecidableEq α] [DecidableEq β] {k l : Nat} {f : α → D} {g : β → D}
theorem Enc.mono (h : Enc k f) (e : k ≤ l) : Enc l f := ⟨h.eqv, h.lay, fun a => Nat.le_trans (h.dp a) e⟩
theorem Enc.shaped (h : Enc k f) (hk : k ≤ 64) (a : α) : SeqAt.shaped (f a) = true := by
  unfold SeqAt.shaped
  rw [h.lay a, Bool.true_and]
  exact decide_eq_true (Nat.le_trans (h.dp a) hk)
theorem Enc.eqvAll (h : Enc k f) : ∀ as bs : List α, PyData.eqvAll (as.map f) (bs.map f) = decide (as = bs)
  | [], [] => by simp [PyData.eqvAll]
  | a :: as, [] => by simp [PyData.eqvAll]
  | [], b :: bs => by simp [PyData.eqvAll]
  | a :: as, b :: bs => by
    rw [List.map_cons, List.map_cons]
    simp only [PyData.eqvAll, h.eqv, h.eqvAll as bs]
    by_cases h1 : a = b <;> by_cases h2 : as = bs <;> simp [h1, h2]
theorem Enc.layAll (h : Enc k f) : ∀ as : List α, PyData.canLayAll0 (as.map f) = true
  | [] => by simp only [List.map_nil, PyData.canLayAll0]
  | a :: as => by
    rw [List.map_cons]
    simp only [PyData.canLayAll0, h.lay, h.layAll as, Bool.and_self]
theorem Enc.dpAll (h : Enc k f) : ∀ as : List α, PyData.depthAll (as.map f) ≤ k
  | [] => by simp only [List.map_nil, PyData.depthAll]; omega
  | a :: as => by
    rw [List.map_cons]
    simp only [PyData.depthAll]
    exact Nat.max_le.mpr ⟨h.dp a, h.dpAll as⟩
theorem Enc.list (h : Enc k f) : Enc (k + 1) (fun as : List α => PyData.list (as.map f)) where
  eqv a b := by simp only [PyData.eqv]; exact h.eqvAll a b
  lay a := by simp only [PyData.canLay0]; exact h.layAll a
  dp a := by simp only [PyData.depth]; exact Nat.succ_le_succ (h.dpAll a)
theorem Enc.tuple (h : Enc k f) : Enc (k + 1) (fun as : List α => PyData.tuple (as.map f)) where
  eqv a b := by simp only [PyData.eqv]; exact h.eqvAll a b
  lay a := by simp only [PyData.canLay0]; exact h.layAll a
  dp a := by simp only [PyData.depth]; exact Nat.succ_le_succ (h.dpAll a)
theorem Enc.pair (h : Enc k f) (h' : Enc k g) : Enc (k + 1) (fun p : α × β => PyData.tuple [f p.1, g p.2]) where
  eqv a b := by
    obtain ⟨a1, a2⟩ := a
    obtain ⟨b1, b2⟩ := b
    simp only [PyData.eqv, PyData.eqvAll, h.eqv, h'.eqv]
    by_cases h1 : a1 = b1 <;> by_cases h2 : a2 = b2 <;> simp [h1, h2]
  lay a := by simp only [PyData.canLay0, PyData.canLayAll0, h.lay, h'.lay, Bool.and_self]
  dp a := by simp only [PyData.depth, PyData.depthAll]; have := h.dp a.1; have := h'.dp a.2; omega
theorem Enc.eqD (h : Enc k f) (hk : k ≤ 64) (a b : α) : VI.eqD (f a) (f b) = some (.fz (.bool (decide (a = b)))) := by
  unfold VI.eqD
  rw [h.shaped hk, h.shaped hk, Bool.and_self, Bool.or_true, if_pos rfl, h.eqv]
theorem Enc.neD (h : Enc k f) (hk : k ≤ 64) (a b : α) : VI.neD (f a) (f b) = some (.fz (.bool (!decide (a = b)))) := by
  unfold VI.neD
  rw [h.shaped hk, h.shaped hk, Bool.and_self, Bool.or_true, if_pos rfl, h.eqv]
end
/-- a number from 0 on -/
abbrev nI : Nat → D := fun x => .int (x : Int)
theorem enc_nat : Enc 0 nI := ⟨fun a b => by
  simp only [PyData.eqv]
  by_cases h : a = b
  · subst h; simp
  · have : ¬ ((a : Int) = (b : Int)) := by omega
    simp [h, this], fun a => by simp only [PyData.canLay0], fun a => by simp only [PyData.depth]; omega⟩
/-- two numbers -/
abbrev nP : Nat × Nat → D := fun p => .tuple [.int (p.1 : Int), .int (p.2 : Int)]
theorem enc_pair : Enc 1 nP := enc_nat.pair enc_nat
@[simp] theorem eqD_rowT {a b : List Nat} : eqD (.tuple (a.map nI)) (.tuple (b.map nI)) = some (.fz (.bool (decide (a = b)))) := enc_nat.tuple.eqD (by omega) a b
@[simp] theorem neD_rowT {a b : List Nat} : neD (.tuple (a.map nI)) (.tuple (b.map nI)) = some (.fz (.bool (!decide (a = b)))) := enc_nat.tuple.neD (by omega) a b
@[simp] theorem eqD_rowL {a b : List Nat} : eqD (.list (a.map nI)) (.list (b.map nI)) = some (.fz (.bool (decide (a = b)))) := enc_nat.list.eqD (by omega) a b
@[simp] theorem neD_rowL {a b : List Nat} : neD (.list (a.map nI)) (.list (b.map nI)) = some (.fz (.bool (!decide (a = b)))) := enc_nat.list.neD (by omega) a b
@[simp] theorem neD_rowL0 {a : List Nat} : neD (.list (a.map nI)) (.list []) = some (.fz (.bool (!decide (a = [])))) := enc_nat.list.neD (by omega) a []
@[simp] theorem eqD_rowL0 {a : List Nat} : eqD (.list (a.map nI)) (.list []) = some (.fz (.bool (decide (a = [])))) := enc_nat.list.eqD (by omega) a []
@[simp] theorem neD_rowT0 {a : List Nat} : neD (.tuple (a.map nI)) (.tuple []) = some (.fz (.bool (!decide (a = [])))) := enc_nat.tuple.neD (by omega) a []
@[simp] theorem eqD_rowT0 {a : List Nat} : eqD (.tuple (a.map nI)) (.tuple []) = some (.fz (.bool (decide (a = [])))) := enc_nat.tuple.eqD (by omega) a []
@[simp] theorem eqD_prL {a b : List (Nat × Nat)} : eqD (.list (a.map nP)) (.list (b.map nP)) = some (.fz (.bool (decide (a = b)))) := enc_pair.list.eqD (by omega) a b
@[simp] theorem neD_prL {a b : List (Nat × Nat)} : neD (.list (a.map nP)) (.list (b.map nP)) = some (.fz (.bool (!decide (a = b)))) := enc_pair.list.neD (by omega) a b
@[simp] theorem neD_prL0 {a : List (Nat × Nat)} : neD (.list (a.map nP)) (.list []) = some (.fz (.bool (!decide (a = [])))) := enc_pair.list.neD (by omega) a []
@[simp] theorem neD_nil : neD (.list []) (.list []) = some (.fz (.bool false)) := enc_nat.list.neD (by omega) [] []
@[simp] theorem eqD_nil : eqD (.list []) (.list []) = some (.fz (.bool true)) := enc_nat.list.eqD (by omega) [] []
@[simp] theorem neD_nilT : neD (.tuple []) (.tuple []) = some (.fz (.bool false)) := enc_nat.tuple.neD (by omega) [] []
@[simp] theorem eqD_nilT : eqD (.tuple []) (.tuple []) = some (.fz (.bool true)) := enc_nat.tuple.eqD (by omega) [] []
end VI
set_option Elab.async false
set_option linter.all false
set_option maxRecDepth 100000
set_option maxHeartbeats 4000000
namespace VI
open PySem PySem.Spec PyProof.Rows L2
section
variable {xs : List D}
theorem sIx_some (n d : Nat) (i : Nat) : HT.sIx n d (some (i : Int)) = min i n := by
  show (if (i : Int) < 0 then ((i : Int) + (n : Int)).toNat else min (i : Int).toNat n) = _
  rw [if_neg (by omega)]; rfl
theorem sIx_none (n d : Nat) : HT.sIx n d none = d := rfl
theorem sIx_neg (n d : Nat) (i : Nat) (h : 0 < i) : HT.sIx n d (some (-(i : Int))) = n - i := by
  show (if -(i : Int) < 0 then (-(i : Int) + (n : Int)).toNat else min (-(i : Int)).toNat n) = _
  rw [if_pos (by omega)]; omega
theorem cut_from (i : Nat) : VI.cutD xs (some (i : Int)) none = xs.drop i := by
  unfold VI.cutD
  rw [sIx_some, sIx_none]
  by_cases h : i ≤ xs.length
  · rw [Nat.min_eq_left h, List.take_of_length_le (by rw [List.length_drop]; omega)]
  · rw [Nat.min_eq_right (by omega), List.drop_length, List.drop_of_length_le (by omega)]; simp
theorem cut_upto (i : Nat) : VI.cutD xs none (some (i : Int)) = xs.take i := by
  unfold VI.cutD
  rw [sIx_some, sIx_none, List.drop_zero, Nat.sub_zero]
  by_cases h : i ≤ xs.length
  · rw [Nat.min_eq_left h]
  · rw [Nat.min_eq_right (by omega), List.take_length, List.take_of_length_le (by omega)]
theorem cut_mid2 (i j : Nat) : VI.cutD xs (some (i : Int)) (some (j : Int)) = (xs.drop i).take (j - i) := by
  unfold VI.cutD
  rw [sIx_some, sIx_some]
  by_cases h : i ≤ xs.length
  · rw [Nat.min_eq_left h]
    by_cases h2 : j ≤ xs.length
    · rw [Nat.min_eq_left h2]
    · rw [Nat.min_eq_right (by omega), List.take_of_length_le (by rw [List.length_drop]; omega), List.take_of_length_le (by rw [List.length_drop]; omega)]
  · rw [show min i xs.length = xs.length by omega, List.drop_length, List.drop_of_length_le (by omega)]; simp
@[simp] theorem cutF0 {i : Nat} : VI.cutD xs (some (i : Int)) none = xs.drop i := cut_from i
@[simp] theorem cutF1 {i : Nat} : VI.cutD xs (some ((i : Int) + 1)) none = xs.drop (i + 1) := cut_from (i + 1)
@[simp] theorem cutF2 {i : Nat} : VI.cutD xs (some ((i : Int) + 2)) none = xs.drop (i + 2) := cut_from (i + 2)
@[simp] theorem cutT0 {i : Nat} : VI.cutD xs none (some (i : Int)) = xs.take i := cut_upto i
@[simp] theorem cutT1 {i : Nat} : VI.cutD xs none (some ((i : Int) + 1)) = xs.take (i + 1) := cut_upto (i + 1)
@[simp] theorem cut12 {i : Nat} : VI.cutD xs (some ((i : Int) + 1)) (some ((i : Int) + 2)) = (xs.drop (i + 1)).take 1 := by
  have := cut_mid2 (xs := xs) (i + 1) (i + 2)
  rw [show i + 2 - (i + 1) = 1 by omega] at this
  exact this
@[simp] theorem cut_one : VI.cutD xs none (some 1) = xs.take 1 := cut_upto 1
@[simp] theorem cutF_one : VI.cutD xs (some 1) none = xs.drop 1 := cut_from 1
@[simp] theorem cut_last : VI.cutD xs none (some (-1)) = xs.dropLast := by
  unfold VI.cutD
  have h := sIx_neg xs.length xs.length 1 (by omega)
  rw [show (-((1 : Nat) : Int)) = -1 from rfl] at h
  rw [h, sIx_none, List.drop_zero, Nat.sub_zero, List.dropLast_eq_take]
@[simp] theorem cut_tail1 : VI.cutD xs (some (-1)) none = xs.drop (xs.length - 1) := by
  unfold VI.cutD
  have h := sIx_neg xs.length 0 1 (by omega)
  rw [show (-((1 : Nat) : Int)) = -1 from rfl] at h
  rw [h, sIx_none, List.take_of_length_le (by rw [List.length_drop]; omega)]
end
theorem nat_ints (l : List Nat) : l.map nI = (l.map fun x : Nat => (x : Int)).map PyData.int := by rw [List.map_map]; rfl
theorem sum_ints : ∀ l : List Nat, (l.map fun x : Nat => (x : Int)).sum = ((l.sum : Nat) : Int)
  | [] => rfl
  | x :: l => by rw [List.map_cons, List.sum_cons, List.sum_cons, sum_ints l]; omega
@[simp] theorem sumD_nat {l : List Nat} : sumD (.tuple (l.map nI)) = some (.fz (.int ((l.sum : Nat) : Int))) := by rw [nat_ints, sumD_mapT, sum_ints]
@[simp] theorem sumD_natL {l : List Nat} : sumD (.list (l.map nI)) = some (.fz (.int ((l.sum : Nat) : Int))) := by rw [nat_ints, sumD_map, sum_ints]
end VI
set_option Elab.async false
set_option linter.all false
set_option maxRecDepth 100000
set_option maxHeartbeats 4000000
namespace VI
open PySem PySem.Spec PyProof.Rows L2
abbrev IsZipF (h : Heap) (z TI TO : Addr) (f0 : Value) (fl : Bool) : Prop :=
  h.get? z = some { cls := .type "zip", dict := none, data := .fields #[f0, .bool fl, .bool false, .ref TI, .ref TO], slots := #[] }
section
variable {prog : Program} {w : World} {A : Around} {E : Value → Shared → Prop} {s : Shared} {z TI TO i1 i2 T0 : Addr} {fp1 fp2 : List Addr} {n1 n2 i : Nat} {P1 P2 : Nat → Value → Prop} {St1 St2 : Nat → Heap → Prop} {fl : Bool} {oT : Obj}
/-- the zip's cells ahead of the i-th item, S a cell of others -/
def ZSt (z TI TO i1 i2 : Addr) (St1 St2 : Nat → Heap → Prop) (S : Addr) (i : Nat) (h : Heap) : Prop :=
  IsTupOf2 h TI (.ref i1) (.ref i2) ∧ St1 i h ∧ St2 i h ∧ ((i = 0 ∧ IsZip h z TI TO .none ∧ ∃ a1 a2, IsTupOf2 h TO a1 a2) ∨
    ∃ (T0 : Addr) (fl : Bool) (oT : Obj), IsZipF h z TI TO (rawInt T0) fl ∧ h.get? T0 = some oT ∧ T0 ≠ z ∧ T0 ≠ i1 ∧ T0 ≠ i2 ∧ T0 ≠ S)
theorem ZSt.keep {Sc : Addr} {h h' : Heap} (S : ZipSep2 z TI TO i1 i2 fp1 fp2) (D1 : Draws prog w A.in1 i1 fp1 n1 P1 St1) (D2 : Draws prog w A.in1 i2 fp2 n2 P2 St2) (st : ZSt z TI TO i1 i2 St1 St2 Sc i h) (hk : ∀ b o, b ≠ Sc → h.get? b = some o → h'.get? b = some o)
    (sz : z ≠ Sc) (sI : TI ≠ Sc) (sO : TO ≠ Sc) (s1 : Sc ∉ fp1) (s2 : Sc ∉ fp2) : ZSt z TI TO i1 i2 St1 St2 Sc i h' := by
  obtain ⟨hTI, st1, st2, hc⟩ := st
  refine ⟨hk _ _ sI hTI, D1.frame _ _ _ st1 fun b hb o e => hk b o (fun q => s1 (q ▸ hb)) e, D2.frame _ _ _ st2 fun b hb o e => hk b o (fun q => s2 (q ▸ hb)) e, ?_⟩
  rcases hc with ⟨h0, hz, a1, a2, hTO⟩ | ⟨T0, fl, oT, hz, hT0, n1', n2', n3, n4⟩
  · exact .inl ⟨h0, hk _ _ sz hz, a1, a2, hk _ _ sO hTO⟩
  · exact .inr ⟨T0, fl, oT, hk _ _ sz hz, hk _ _ n4 hT0, n1', n2', n3, n4⟩
/-- the tuples made so far -/
structure KzG (P1 P2 : Nat → Value → Prop) (lo : Addr) (h : Heap) (as : List Addr) : Prop where
  rise : as.Pairwise (· < ·)
  above : ∀ a ∈ as, lo < a
  pairs : ∀ (j : Nat) (a : Addr), as[j]? = some a → ∃ x y, P1 j x ∧ P2 j y ∧ IsTupOf2 h a x y
theorem KzG.there {lo : Addr} {h : Heap} {as : List Addr} (g : KzG P1 P2 lo h as) {a : Addr} (ha : a ∈ as) : a < h.objs.size := by
  obtain ⟨j, hj⟩ := List.mem_iff_getElem?.mp ha
  obtain ⟨_, _, _, _, e⟩ := g.pairs j a hj
  exact Heap.lt_size e
end
def seqD : D → Option (List D)
  | .list ds => some ds
  | .tuple ds => some ds
  | _ => none
def lzD : D → D → Option Rv := fun x y => (seqD x).bind fun xs => (seqD y).bind fun ys => some (.fresh (zipD xs ys))
section
variable {K : PySem.W.Frag} {C : Cf} {F H : Hp} {e : Env} {σ : L2.St}
end
end VI
set_option Elab.async false
set_option linter.all false
set_option maxRecDepth 100000
set_option maxHeartbeats 4000000
namespace VI
open PySem PySem.Spec PyProof.Rows L2
variable {K : PySem.W.Frag} {C : Cf} {F H : Hp} {e e' : Env} {σ : L2.St}
/-- f(a), a a new list that f may change -/
def eIx (fn : List D → List D → Option (Ret × List D)) (a : Ev) : Ev := fun e => (a e).bind fun r e1 => match r with
  | .fresh b => match fn b [] with
    | none => .no
    | some (.ok r, _) => .ok r e1
    | some (.ex x, _) => .ex x e1
  | _ => .no
def okIx (z : Option (Ret × List D)) (e : Env) (Q : Po Rv) : Prop := match z with
  | some (.ok r, _) => Q r e
  | _ => False
def kIx (fn : List D → List D → Option (Ret × List D)) (Q : Po Rv) : Po Rv := fun r e => match r with
  | .fresh b => okIx (fn b []) e Q
  | _ => False
@[simp] theorem kIx_eq {fn : List D → List D → Option (Ret × List D)} {Q : Po Rv} {b : List D} : kIx fn Q (.fresh b) e = okIx (fn b []) e Q := rfl
@[simp] theorem ok_Ix {fn : List D → List D → Option (Ret × List D)} {a : Ev} {Q : Po Rv} : Ok (eIx fn a e) Q = Ok (a e) (kIx fn Q) := by
  unfold eIx
  rw [ok_bind]
  congr 1
  funext r e1
  cases r with
  | fz d => rfl
  | bor i => rfl
  | fresh b =>
    show Ok (match fn b [] with | none => .no | some (.ok r, _) => .ok r e1 | some (.ex x, _) => .ex x e1) Q = okIx (fn b []) e1 Q
    cases fn b [] with
    | none => rfl
    | some w =>
      obtain ⟨w1, w2⟩ := w
      cases w1 <;> rfl
@[simp] theorem lzD_tt {xs ys : List D} : lzD (.tuple xs) (.tuple ys) = some (.fresh (zipD xs ys)) := rfl
@[simp] theorem lzD_tl {xs ys : List D} : lzD (.tuple xs) (.list ys) = some (.fresh (zipD xs ys)) := rfl
@[simp] theorem lzD_lt {xs ys : List D} : lzD (.list xs) (.tuple ys) = some (.fresh (zipD xs ys)) := rfl
@[simp] theorem lzD_ll {xs ys : List D} : lzD (.list xs) (.list ys) = some (.fresh (zipD xs ys)) := rfl
end VI
set_option Elab.async false
set_option linter.all false
set_option maxRecDepth 100000
set_option maxHeartbeats 4000000
namespace VI
open PySem PySem.Spec PyProof.Rows L2
section
variable {e : Env} {f g : F2} {a b c : Ev} {r x y : Rv}
def kC3 (g : F2) (y : Rv) (Q : Po Rv) : Po Rv := kOpd fun z e4 => Ok (ofO (ap2 g y z e4) e4) Q
@[simp] theorem kC3_eq {Q : Po Rv} : kC3 g y Q r e = okO (ap2 g y (calmR r) e) e Q := ok_ofO
def kCb (g : F2) (y : Rv) (c : Ev) (Q : Po Rv) : Po Bool := fun k e => if k = true then Ok (c e) (kC3 g y Q) else Q (.fz (.bool false)) e
@[simp] theorem kCb_eq {Q : Po Rv} {k : Bool} : kCb g y c Q k e = if k = true then Ok (c e) (kC3 g y Q) else Q (.fz (.bool false)) e := rfl
def kC2 (f g : F2) (x : Rv) (c : Ev) (Q : Po Rv) : Po Rv := kOpd fun y e2 => Ok (ofO ((ap2 f x y e2).bind fun r => asB r e2) e2) (kCb g y c Q)
@[simp] theorem kC2_eq {Q : Po Rv} : kC2 f g x c Q r e = okO ((ap2 f x (calmR r) e).bind fun r => asB r e) e (kCb g (calmR r) c Q) := ok_ofO
def kC1 (f g : F2) (b c : Ev) (Q : Po Rv) : Po Rv := kOpd fun x e1 => Ok (b e1) (kC2 f g x c Q)
@[simp] theorem kC1_eq {Q : Po Rv} : kC1 f g b c Q r e = Ok (b e) (kC2 f g (calmR r) c Q) := rfl
@[simp] theorem asB_bool {k : Bool} : asB (.fz (.bool k)) e = some k := rfl
@[simp] theorem ok_chain2 {Q : Po Rv} : Ok (chain2 f g a b c e) Q = Ok (a e) (kC1 f g b c Q) := by
  unfold chain2
  rw [ok_bind, ok_opd]
  congr 1
  funext x e1
  show Ok (_) Q = Ok (b e1) (kC2 f g (calmR x) c Q)
  rw [ok_bind, ok_opd]
  congr 1
  funext y e2
  show Ok (_) Q = Ok _ (kCb g (calmR y) c Q)
  rw [ok_bind]
  congr 1
  funext k e3
  cases k with
  | false => rfl
  | true =>
    show Ok ((opd c e3).bind _) Q = Ok (c e3) (kC3 g (calmR y) Q)
    rw [ok_bind, ok_opd]; rfl
end
end VI
set_option Elab.async false
set_option linter.all false
set_option maxRecDepth 100000
set_option maxHeartbeats 4000000
namespace VI
open PySem PySem.Spec PyProof.Rows L2
variable {K : PySem.W.Frag} {C : Cf} {F H : Hp} {e e' : Env} {σ : L2.St}
theorem RvR.grow {p : Addr} {o : HO} (R : Rp K C F H e σ) (hp : H p = none) {r : Rv} {v : V} (h : RvR K C F H e σ r v) : RvR K C (upd F p o) (upd H p o) e σ r v := by
  have hF : F p = none := R.ext.free hp
  cases r with
  | fz d => exact Dp.ext (Ext.new hF) h
  | bor i => exact h
  | fresh ds =>
    obtain ⟨q, ws, rfl, k1, k2, k3, k4, k5⟩ := h
    refine ⟨q, ws, rfl, ?_, k2.ext (Ext.new hF), by rw [upd_ne (fun z => by rw [z, hp] at k1; cases k1)]; exact k3, k4, k5.1, fun i fp ht => k5.2 i fp (R.trBack (fun a h0 _ _ _ => upd_ne (fun z => h0 (z ▸ hp))) ht)⟩
    rw [upd_ne (fun z => by rw [z, hp] at k1; cases k1)]
    exact k1
theorem RMs.grow {p : Addr} {o : HO} (R : Rp K C F H e σ) (hp : H p = none) : ∀ {rs : List Rv} {vs : List V}, RMs K C F H e σ rs vs → RMs K C (upd F p o) (upd H p o) e σ rs vs
  | [], [], _ => trivial
  | r :: rs, v :: vs, h => ⟨h.1.grow R hp, h.2.1, h.2.2.1, RMs.grow R hp h.2.2.2⟩
  | [], _ :: _, h => h.elim
  | _ :: _, [], h => h.elim
end VI
set_option Elab.async false
set_option linter.all false
set_option maxRecDepth 100000
set_option maxHeartbeats 4000000
namespace VI
open PySem PySem.Spec PyProof.Rows L2
variable {K : PySem.W.Frag} {C : Cf} {F H : Hp} {e e' : Env} {σ : L2.St}
def eL1 (fn : List D → List D → Option (Ret × List D)) (i j : Nat) : Ev := fun e => if i = j then .no else match mutAt e i, mutAt e j with
  | some b, some xs => match fn b xs with
    | none => .no
    | some (.ok r, b') => .ok r (putAt e i b')
    | some (.ex x, b') => .ex x (putAt e i b')
  | _, _ => .no
def initL (n : Nat) (b xs : List D) : Env := some (.io b) :: some (.lent xs) :: List.replicate (n - 2) none
section
variable {P : Program} {w : World} {mg : Str → Option Value} {base : Heap} {XR : Hp → Hp → Xc → Value → Option Addr → Prop} {x qual : Str} {st : Stmt} {f : Addr} {fd : FuncData} {N ps : List Str} {k : Nat} {body : St1}
end
def okL1 (fn : List D → List D → Option (Ret × List D)) (i : Nat) (e : Env) (Q : Po Rv) (o o' : Option (List D)) : Prop := match o, o' with
  | some b, some xs => okIo (fn b xs) i e Q
  | _, _ => False
@[simp] theorem okL1_some {fn : List D → List D → Option (Ret × List D)} {Q : Po Rv} {i : Nat} {b xs : List D} : okL1 fn i e Q (some b) (some xs) = okIo (fn b xs) i e Q := rfl
theorem putAt_O {i : Nat} {b : List D} : putAt e i b = putO e[i]? i b e := by
  unfold putAt putO
  split <;> simp_all
@[simp] theorem ok_L1 {fn : List D → List D → Option (Ret × List D)} {i j : Nat} {Q : Po Rv} : Ok (eL1 fn i j e) Q = (i ≠ j ∧ okL1 fn i e Q (mutO e[i]?) (mutO e[j]?)) := by
  unfold eL1
  by_cases h : i = j
  · rw [if_pos h]; simp [h, Ok]
  rw [if_neg h, mut_eq, mut_eq]
  simp only [ne_eq, h, not_false_eq_true, true_and]
  cases mutO e[i]? with
  | none => rfl
  | some b =>
    cases mutO e[j]? with
    | none => rfl
    | some xs =>
      simp only [okL1_some]
      unfold okIo
      cases fn b xs with
      | none => rfl
      | some z =>
        obtain ⟨r, b'⟩ := z
        cases r with
        | ok r => simp only [putAt_O]; rfl
        | ex x => rfl
@[simp] theorem initL_eq {n : Nat} {b xs : List D} : initL n b xs = some (.io b) :: some (.lent xs) :: List.replicate (n - 2) none := rfl
end VI
set_option Elab.async false
set_option linter.all false
set_option maxRecDepth 100000
set_option maxHeartbeats 4000000
namespace VI
open PySem PySem.Spec PyProof.Rows L2
variable {K : PySem.W.Frag} {C : Cf} {F H : Hp} {e e' : Env} {σ : L2.St}
def orL (a b : Ev) : Ev := fun e => (a e).bind fun x e1 => match x with
  | .fresh [] => b e1
  | .fresh (d :: ds) => .ok (.fresh (d :: ds)) e1
  | _ => .no
section
variable {w : Wd} {X : Cx} {a b : Expr} {rest : List Expr} {ea eb : Ev} {pos : Pos}
end
def kOrL (b : Ev) (Q : Po Rv) : Po Rv := fun x e => match x with
  | .fresh [] => Ok (b e) Q
  | .fresh (d :: ds) => Q (.fresh (d :: ds)) e
  | _ => False
@[simp] theorem kOrL_nil {b : Ev} {Q : Po Rv} : kOrL b Q (.fresh []) e = Ok (b e) Q := rfl
@[simp] theorem kOrL_cons {b : Ev} {Q : Po Rv} {d : D} {ds : List D} : kOrL b Q (.fresh (d :: ds)) e = Q (.fresh (d :: ds)) e := rfl
@[simp] theorem ok_orL {a b : Ev} {Q : Po Rv} : Ok (orL a b e) Q = Ok (a e) (kOrL b Q) := by
  unfold orL
  rw [ok_bind]
  congr 1
  funext r e1
  cases r with
  | fz d => rfl
  | fresh ds => cases ds <;> rfl
  | bor _ => rfl
end VI
set_option Elab.async false
set_option linter.all false
set_option maxRecDepth 100000
set_option maxHeartbeats 4000000
namespace VI
open PySem PySem.Spec PyProof.Rows L2
variable {K : PySem.W.Frag}
end VI
set_option Elab.async false
set_option linter.all false
set_option maxRecDepth 100000
set_option maxHeartbeats 4000000
namespace VI
open PySem PySem.Spec PyProof.Rows L2
/-- a built-in class of error, as a base -/
structure BaseE (B newId initId : String) (bmB : List Value) : Prop where
  F : ExcBaseFacts B newId initId bmB
  S : StoreFacts B bmB "object.__setattr__" "object"
  typ : typeOf (.type B) = pure (.type "type")
  stub : Manifest.isStub B = false
  hand : PySem.W.handedIn (.builtin initId) = true
  tail : PySem.W.excTail bmB bmB = true
  hin : ∀ K : PySem.W.Frag, PySem.W.findCls K (.type B) (.type "type") "__init__" = some (.val (.builtin initId))
theorem base_LookupError : BaseE "LookupError" "LookupError.__new__" "LookupError.__init__" [.type "LookupError", .type "Exception", .type "BaseException", .type "object"] := ⟨PySem.F.excBase_LookupError, PySem.F.store_LookupError, by kernel_rfl, by decide +kernel, by decide +kernel, by decide +kernel, fun K => by rfl⟩
theorem base_RuntimeError : BaseE "RuntimeError" "RuntimeError.__new__" "RuntimeError.__init__" [.type "RuntimeError", .type "Exception", .type "BaseException", .type "object"] := ⟨PySem.F.excBase_RuntimeError, PySem.F.store_RuntimeError, by kernel_rfl, by decide +kernel, by decide +kernel, by decide +kernel, fun K => by rfl⟩
theorem base_OverflowError : BaseE "OverflowError" "OverflowError.__new__" "OverflowError.__init__" [.type "OverflowError", .type "ArithmeticError", .type "Exception", .type "BaseException", .type "object"] := ⟨PySem.F.excBase_OverflowError, PySem.F.store_OverflowError, by kernel_rfl, by decide +kernel, by decide +kernel, by decide +kernel, fun K => by rfl⟩
theorem base_ValueError : BaseE "ValueError" "ValueError.__new__" "ValueError.__init__" [.type "ValueError", .type "Exception", .type "BaseException", .type "object"] := ⟨PySem.F.excBase_ValueError, PySem.F.store_ValueError, by kernel_rfl, by decide +kernel, by decide +kernel, by decide +kernel, fun K => by rfl⟩
/-- what the written part says of the class at C -/
structure OexE (K : PySem.W.Frag) (C : Addr) (newId : String) (bmB : List Value) : Prop where
  cls : ∃ nm q N bs sn sub ab col dd k0 k1 k2 k3 k5, K.lookup C = some (excClassObj nm q C N bs bmB true sn sub ab col dd k0 k1 k2 k3 k5 newId)
  sa : PySem.W.findIn K (.ref C) "__setattr__" = some (some (.builtin "object.__setattr__"))
  exC : PySem.W.subIn K (.ref C) (.type "BaseException") = some true
  tyC : PySem.W.typeIn K (.ref C) = some (.type "type")
  kC : PySem.W.keepIn K (.ref C) = true
section
open Builtin Builtin.ObjectAttr
variable {X : Cx} {pins : List (Addr × Obj)} {σ : L2.St} {H : Hp} {s : Shared} {a C dx : Addr} {f : Str} {y : V} {u : Value} {fs : List (Str × V)} {Q : Unit → Shared → Prop} {E : Value → Shared → Prop} {A : Around} {B newId initId : String} {bmB : List Value}
/-- the field's store, told of the heap -/
theorem est_raw {prog : Program} {w : World} {R : Result → Shared → Prop} {K : PySem.W.Frag} {name : Str} {tk : Tok} {v : Value} {x : Addr} {fv : Array Value} (Z : BaseE B newId initId bmB) (T : OexE K C newId bmB) (kin : K.In s.heap) (hx : s.heap.get? x = some { cls := .ref C, data := .fields fv }) (ha : PySem.W.findIn K (.ref C) name = some none)
    (hq : ∀ h' tk' dx, (∀ b o, b ≠ x → s.heap.get? b = some o → h'.get? b = some o) → s.heap.objs.size ≤ dx → dx ≠ x → h'.get? x = some { cls := .ref C, dict := some dx, data := .fields fv } →
      h'.Ns1 dx (fun y => if y = name then some v else none) → R (.ok (.ret .none)) { s with heap := h', toks := tk' }) :
    codeAny (model prog w) A (.call (.builtin "object.__setattr__") ⟨[.ref x, .str name tk, v], []⟩) R s := by
  obtain ⟨nm, q, N, bs, sn, sub, ab, col, dd, k0, k1, k2, k3, k5, hC⟩ := T.cls
  have hcl : PySem.W.clsIn K C = some { name := nm, bases := bs, mro := .ref C :: bmB, ns := N, qualname := q, hasDict := true, slotNames := sn, subclasses := sub, abstract := ab, collection := col, hasDel := false } := by
    unfold PySem.W.clsIn; rw [hC] <;> rfl
  have I : PySem.W.InstAt s.heap x { cls := .ref C, data := .fields fv } C none := ⟨hx, rfl, rfl, trivial⟩
  have ov : PySem.W.excOver K C bmB = true := by
    unfold PySem.W.excOver
    rw [hcl]
    show (C == C && PySem.W.excTail bmB bmB) = true
    rw [beq_self_eq_true, Z.tail]; rfl
  have tkr : PySem.W.takerIn K C name = some none := by unfold PySem.W.takerIn; rw [ha]; rfl
  have nxs : x ≠ s.heap.objs.size := Nat.ne_of_lt (Heap.lt_size hx)
  refine PySem.W.osa_openX Z.S kin I ov tkr fun b => ?_
  obtain ⟨hp, g, d, t, os⟩ := s
  have looks : PySem.W.Looks (model prog w) hp (classData C) _ := PySem.W.looks_clsIn kin hcl
  unfold storeInOwnDict ownDictForStores
  repeat (first | with_reducible refine PySem.HandSPX.store_in_new ?_ ?_ | with_reducible refine wpAny_loadPart_at hx ?_ | with_reducible refine looks.at ?_ | wp_step)
  · exact ⟨_, #[], _, (Heap.get?_update_ne _ _ _ _ nxs.symm).trans (Heap.get?_push_at rfl rfl), rfl, fun e he => absurd he (by simp), fun _ => rfl⟩
  · intro h' tk' n1 same
    have at1 : (hp.push { cls := .type "dict", data := .dict #[] }).get? x = some { cls := .ref C, data := .fields fv } := Heap.get?_push_of_some _ hx
    refine hq h' tk' hp.objs.size (fun b o hb ho => ?_) (Nat.le_refl _) nxs.symm ?_ n1
    · exact (same.2 b (Nat.ne_of_lt (Heap.lt_size ho))).trans ((Heap.get?_update_ne _ _ _ _ hb).trans (Heap.get?_push_of_some _ ho))
    · exact (same.2 x nxs).trans (Heap.get?_update_self _ at1 rfl)
end
end VI
set_option Elab.async false
set_option linter.all false
set_option maxRecDepth 100000
set_option maxHeartbeats 4000000
namespace VI
open PySem PySem.Spec PyProof.Rows L2
section
open Builtin Builtin.ObjectAttr
variable {X : Cx} {pins : List (Addr × Obj)} {σ : L2.St} {H : Hp} {s : Shared} {a C dx : Addr} {f : Str} {y : V} {u : Value} {fs : List (Str × V)} {Q : Unit → Shared → Prop} {E : Value → Shared → Prop} {A : Around} {B newId initId : String} {bmB : List Value}
/-- self.f = y on an error that is being made -/
theorem est_new (Z : BaseE B newId initId bmB) (T : OexE X.K C newId bmB) (I : L2.Inv X pins σ H s) (e : H a = some (exo a C none)) (hno : PySem.W.findIn X.K (.ref C) f = some none) (ry : RelV y u)
    (h : ∀ dx s', H dx = none → dx ≠ a → L2.Inv X pins σ (upd (upd H dx (exd dx [(f, y)])) a (exo a C (some dx))) s' → Q () s') : wpAny (model X.prog X.w) A (setAttr (.ref a) f u) Q E s := by
  obtain ⟨t1, at1⟩ := exo_at I.hok e
  obtain ⟨hp, g, d, t, os⟩ := s
  refine PySem.W.set_plain I.kIn (ox := { cls := .ref C, dict := none, data := .fields #[.ref t1, .none, .none, .none, .bool false, .none] }) (od := none) ⟨at1, rfl, rfl, trivial⟩ T.sa ?_
  refine est_raw (s := ⟨hp, g, d, _, os⟩) Z T I.kIn at1 hno fun h' tk' dx k dn dne hx hn => ?_
  have fresh : H dx = none := I.hok.fresh dn
  have old : ∀ {b : Addr} {o : Obj}, hp.get? b = some o → b ≠ dx := fun {b o} q => Nat.ne_of_lt (Nat.lt_of_lt_of_le (Heap.lt_size q) dn)
  have apart : ∀ {b : Addr}, H b = none → b ≠ a := fun {b} n z => by rw [z, e] at n; cases n
  have U : Un X.fs [] H (upd (upd H dx (exd dx [(f, y)])) a (exo a C (some dx))) hp h' :=
    ⟨fun b o q n _ _ => k b o (apart n) q, fun b o q n _ _ => ⟨o.slots, k b o (apart n) q⟩, fun b o q n _ => by rw [upd_ne (apart n), upd_ne (old q)]; exact n,
     fun b o q _ => by
      by_cases hb : b = a
      · exact ⟨_, by rw [hb]; exact hx⟩
      · exact ⟨o, k b o hb q⟩,
     fun b xs q => by rw [upd_ne (at_ne e q exo_tup), upd_ne (ne_of_none q fresh)]; exact q,
     fun b o v q => by rw [upd_ne (at_ne e q exo_frz), upd_ne (ne_of_none q fresh)]; exact q,
     fun b ps q => ⟨#[], by rw [upd_ne (at_ne e q exo_tbl), upd_ne (ne_of_none q fresh), q]; simp⟩⟩
  refine h dx _ fresh dne (I.un (t' := tk') U fun b o q => ?_)
  by_cases hb : b = a
  · subst hb; rw [upd_same] at q; cases q; exact exo_ok hx
  · rw [upd_ne hb] at q
    by_cases hd : b = dx
    · subst hd; rw [upd_same] at q; cases q
      exact exd_ok hn (relO_put (fs := []) ry fun g => True.intro)
    · rw [upd_ne hd] at q
      refine (I.hok b o q).stay (fun c v hc z => k c v ?_ z) (fun c hc => by rw [upd_ne (at_ne e hc exo_own), upd_ne (ne_of_none hc fresh)]; exact hc) (fun c xs hc => by rw [upd_ne (at_ne e hc exo_tup), upd_ne (ne_of_none hc fresh)]; exact hc)
      rcases hc with hc | hc
      · rw [hc]; exact hb
      · exact at_ne e hc exo_own
/-- B.__init__(self, ..) -/
theorem einit_ok {us : List Value} {Q : Value → Shared → Prop} (Z : BaseE B newId initId bmB) (T : OexE X.K C newId bmB) (I : L2.Inv X pins σ H s) (e : H a = some (exo a C none)) (hl : us.length ≤ sizeLine) (h : ∀ s', L2.Inv X pins σ H s' → Q .none s') :
    wpAny (model X.prog X.w) A (call (.builtin initId) (.ref a :: us)) Q E s := by
  obtain ⟨nm, q, N, bs, sn, sub, ab, col, dd, k0, k1, k2, k3, k5, hC⟩ := T.cls
  obtain ⟨t1, at1⟩ := exo_at I.hok e
  obtain ⟨hp, g, d, t, os⟩ := s
  refine wpAny_call (PySem.HandSPX.init_base Z.F (fun _ => rfl) (I.kIn _ _ hC) at1 hl fun h' t2 k hx => ?_)
  have J := I.write (t' := t) (x := a) (e := a) (o := exo a C none) (by rw [e]; exact True.intro) (.inl rfl) k ⟨_, hx⟩ (exo_ok hx)
  have eu : upd H a (exo a C none) = H := funext fun b => by
    by_cases hb : b = a
    · rw [hb, upd_same, e]
    · rw [upd_ne hb]
  rw [eu] at J
  exact h _ J
end
section
variable {X : Cx} {o e : Expr} {es : List Expr} {to te : TE} {ta : TA} {f : Str} {p p' p1 p2 pos : Pos} {B newId initId : String} {bmB : List Value}
def tEinit (K : PySem.W.Frag) (newId : String) (bmB : List Value) (ta : TA) : TE := fun σ H Q => ta σ H fun vs H1 => ∃ (a C : Addr) (ws : List V), vs = .ref a :: ws ∧ ws.length ≤ 1000 ∧ OexE K C newId bmB ∧ H1 a = some (exo a C none) ∧ Q .non H1
def tEst (K : PySem.W.Frag) (newId : String) (bmB : List Value) (f : Str) (to te : TE) : TS := fun D σ H => te σ H fun y H1 => to σ H1 fun x H2 => ∃ a C : Addr, x = .ref a ∧ OexE K C newId bmB ∧ PySem.W.findIn K (.ref C) f = some none ∧
  H2 a = some (exo a C none) ∧ ∀ dx, H2 dx = none → dx ≠ a → D.nx σ (upd (upd H2 dx (exd dx [(f, y)])) a (exo a C (some dx)))
theorem pe_einit {x : Str} {pl : Sem Bool} (Z : BaseE B newId initId bmB) (hg : Gl X x) (hm : X.mg x = none) (hv : bootBuiltins x = some (.type B)) (ha : PA X (e :: es) ta) (hn : x ≠ "__name__") (hd : (x == ("__debug__" : Str)) = false)
    (hc : eval (.Call (.Attribute (.Name x p1) "__init__" p2) (e :: es) [] pos) X.env = (do
      let ov ← eval (.Name x p1) X.env
      standAt p2.atName
      let (f, first) ← holding [ov] (getMethod ov "__init__" pl)
      callWith pos f first (backTo pos (starEach (e :: es) X.env)) (backToKw pos (keywordEach [] X.env))))
    (he : starEach (e :: es) X.env = (false, eval e X.env) :: starEach es X.env := by rfl) (hpl : (backTo pos (starEach es X.env)).any (·.1) = false := by rfl) :
    PE X (.Call (.Attribute (.Name x p1) "__init__" p2) (e :: es) [] pos) (tEinit X.K newId bmB ta) := by
  refine ⟨fun pins s σ H Q I h => ?_⟩
  refine PySem.W.methodCall_KW (ld_blt I hg hm hv ?_ hn hd) hc
  obtain ⟨m, fr⟩ := I.fr
  refine PySem.W.method_type fr I.ok.mod.kin Z.typ Z.stub (Z.hin X.K) Z.hand ?_
  show wpAny _ _ (callWith pos (Value.builtin initId) [] (backTo pos (starEach (e :: es) X.env)) []) _ _ _
  refine PyProof.Rows.callWith_method1 (thn (ha.run pos pins _ σ H _ (I.tok _) h) fun us s1 ⟨vs, H1, I1, r1, a, C, ws, ev, hl, T, ea, q⟩ => ?_) he hpl
  subst ev
  cases r1 with
  | @cons _ u0 _ ur ra rw' =>
    obtain rfl : u0 = Value.ref a := ra
    have hlen : ur.length ≤ sizeLine := by
      rw [← Paired.length rw', sizeLine_eq]; omega
    exact einit_ok Z T I1 ea hlen fun s' J => ⟨.non, H1, J, rfl, q⟩
theorem ps_est (Z : BaseE B newId initId bmB) (ho : PE X o to) (he : PE X e te) (hs : swapsWith e (some (.Attribute o f p')) pos.line X.env = pure false := by rfl) : PS X (.Assign [.Attribute o f p'] e pos) (tEst X.K newId bmB f to te) := by
  refine ⟨fun pins s σ H D I h => ?_⟩
  refine plainObj_wpAny_Assign_Attribute (thn (he.run pins s σ H _ I h) fun v s1 ⟨y, H1, I1, r1, q1⟩ => thn (ho.run pins s1 σ H1 _ I1 q1) fun u s2 ⟨x, H2, I2, r2, a, C, ex, T, hno, ea, q⟩ => ?_) hs
  subst ex
  obtain rfl : u = Value.ref a := r2
  exact est_new Z T I2 ea hno r1 fun dx s' n ne J => ⟨σ, _, J, q dx n ne⟩
/-- what an __init__ of one field does -/
def spEi (C : Addr) (f : Str) : Sp := fun vs H Q _ => ∃ a v, vs = [.ref a, v] ∧ H a = some (exo a C none) ∧ ∀ d, H d = none → d ≠ a → Q .non (upd (upd H d (exd d [(f, v)])) a (exo a C (some d)))
/-- the __init__ as a def of the text -/
theorem ok_einit {P : Program} {w : World} {K : PySem.W.Frag} {mg : Str → Option Value} {base : Heap} {qual : Str} {st : Stmt} {fI C : Addr} {fd : FuncData} {f : Str} (F1 : Fun K "__init__" qual st fI fd) (Z : BaseE B newId initId bmB) (T : OexE K C newId bmB) (hno : PySem.W.findIn K (.ref C) f = some none)
    (S : FnScope [("self" : Str), f] [("self" : Str), f] (defScope st))
    (hbody : ∀ (cdv : Value) (A : Around) (outer : List PySem.Env) (s : Shared) (H : Hp) (E : XK), Room 1 (A.deeper (envOfC qual (defScope st) s.heap.objs.size fI cdv)) →
      PSs (cxOf CX0 P w K mg base [("self" : Str), f] qual (defScope st) fI cdv A outer s H E).nox (defBody st) (tSeq (tDrop (tEinit K newId bmB (tCons (tVar 0) (tCons (tVar 1) tNil)))) (tEst K newId bmB f (tVar 0) (tVar 1)))) :
    FnOk P w K mg base CX0 2 fI fd [("self" : Str), f] (spEi C f) := by
  refine F1.ok S (fun vs H Q E h => ?_) (fun cdv A outer s H vs Q E hr h => ⟨_, hbody cdv A outer s H E hr, ?_⟩)
  · obtain ⟨a, v, rfl, _⟩ := h; rfl
  · obtain ⟨a, v, rfl, ha, q⟩ := h
    refine ⟨_, rfl, _, rfl, a, C, [v], rfl, by show 1 ≤ 1000; omega, T, ha, ?_⟩
    exact ⟨_, rfl, _, rfl, a, C, rfl, T, hno, ha, fun dx h1 h2 => q dx h1 h2⟩
end
end VI
set_option Elab.async false
set_option linter.all false
set_option maxRecDepth 100000
set_option maxHeartbeats 4000000
namespace VI
open PySem PySem.Spec PyProof.Rows L2
variable {K : PySem.W.Frag} {C : Cf} {F H : Hp} {e e' : Env} {σ : L2.St}
/-- the name of an error's class -/
def excNm : D → Option Str
  | .dict ((.none, .str n) :: _) => some n
  | _ => none
/-- how an error that is let out lies -/
def XRk (K : PySem.W.Frag) : Hp → Hp → Xc → Value → Option Addr → Prop := fun F _ x cv od => ∃ C d fs, ExK K C x.cls ∧ cv = .ref C ∧ od = some d ∧ F d = some (.xd fs) ∧ fs.map (·.1) = x.fs.map (·.1) ∧ DpAll K F (fs.map (·.2)) (x.fs.map (·.2))
section
variable {X : Cx} {W : WX} {ex : Expr} {a : Ev} {p pos pos2 : Pos} {B newId initId : String} {bmB : List Value} {x : Str} {Cc fI : Addr} {k : Nat} {fd : FuncData} {f : Str}
end
def atF (f : Str) : List (D × D) → Option D
  | [] => none
  | (k, d) :: r => match k with
    | .str g => if f = g then some d else atF f r
    | _ => atF f r
def attrD (f : Str) : F1 := fun d => match d with
  | .dict ((.none, .str _) :: kvs) => (atF f kvs).map .fz
  | _ => none
theorem atF_zip {H : Hp} {f : Str} : ∀ {fs : List (Str × V)} {ds : List D} {d : D}, DpAll K H (fs.map (·.2)) ds → atF f ((fs.map fun p => PyData.str p.1).zip ds) = some d → ∃ v, fs.lookup f = some v ∧ Dp K H v d
  | [], _, _, _, h => by cases h
  | (g, v) :: fs, _, _, .cons q r, h => by
    simp only [List.map_cons, List.zip_cons_cons, atF] at h
    rw [lookup_put]
    split at h
    · rename_i e
      cases h
      exact ⟨v, if_pos e, q⟩
    · rename_i e
      rw [if_neg e]
      exact atF_zip r h
def tXfE (K : PySem.W.Frag) (f : Str) (te : TE) : TE := fun σ H Q => te σ H fun x H1 => ∃ (a C d : Addr) (n : Str) (fs : List (Str × V)) (v : V), x = .ref a ∧ ExK K C n ∧ H1 a = some (exk a C d) ∧ H1 d = some (.xd fs) ∧ fs.lookup f = some v ∧ Q v H1
theorem pe_xfE {X : Cx} {ex : Expr} {te : TE} {pos : Pos} {f : Str} (hf : f ∈ excFlds) (he : PE X ex te) (hb : attributeBase ex f X.env (eval ex X.env) = eval ex X.env := by rfl) : PE X (.Attribute ex f pos) (tXfE X.K f te) := by
  refine ⟨fun pins s σ H Q I h => ?_⟩
  refine attr_of hb (thn (he.run pins s σ H _ I h) fun u s1 hh => ?_)
  obtain ⟨x, H1, I1, rx, a, C, d, n, fs, v, ev, T, ea, ed, l, q⟩ := hh
  subst ev
  obtain rfl : u = Value.ref a := rx
  obtain ⟨oe, vs, e1, e2, e3⟩ := exk_at I1.hok ea
  have hx : ObjOk X.prog X.w H1 s1.heap d (.xd fs) := I1.hok d _ ed
  obtain ⟨mA, hns, hr⟩ := hx
  obtain ⟨od, ho, hl⟩ := lookIn_ns hns
  obtain ⟨u, hu, ru⟩ := RelO.some_of (v := v) (o := mA f) (by rw [← l]; exact hr f)
  have J : PySem.W.InstAt s1.heap a oe C (some od) := ⟨e1, e2.1, by unfold PySem.W.notCls; rw [e3], by rw [e2.2]; exact ho⟩
  exact HandSPX.exc_get I1.kIn J T.ex.hg T.ex.hk T.ex.hs (PySem.W.findObj_own T.ex.hd (T.fl f hf) rfl (by rw [hl, hu])) (handed_of ru) ⟨v, H1, I1.tok _, ru, q⟩
theorem dp_exc {v : V} {n : Str} {kvs : List (D × D)} (h : Dp K F v (.dict ((.none, .str n) :: kvs))) : ∃ a C d fs ds, v = .ref a ∧ ExK K C n ∧ F a = some (exk a C d) ∧ F d = some (.xd fs) ∧ DpAll K F (fs.map (·.2)) ds ∧ kvs = (fs.map fun p => PyData.str p.1).zip ds := by
  generalize hd : PyData.dict ((.none, .str n) :: kvs) = dd at h
  cases h with
  | exc x h1 h2 r =>
    injection hd with hd
    injection hd with e1 e2
    injection e1 with e3 e4
    injection e4 with e5
    subst e5
    exact ⟨_, _, _, _, _, rfl, x, h1, h2, r, e2⟩
  | @dcT a od kv ds h r =>
    injection hd with hd
    cases kv with
    | nil => simp at hd
    | cons p kv =>
      cases r with
      | cons q r =>
        simp only [List.map_cons, List.zip_cons_cons, List.cons.injEq, Prod.mk.injEq] at hd
        exact absurd hd.1.1 (by unfold keysD; exact fun z => by cases z)
  | @dcK a od kv ds h r =>
    injection hd with hd
    simp only [List.cons.injEq, Prod.mk.injEq] at hd
    exact absurd hd.1.2 (by exact fun z => by cases z)
  | _ => cases hd
theorem rd_attr {w : Wd} {f : Str} {a : Ev} {Q : VK} (h : rdR w (un1 (attrD f) a) σ H Q) : tXfE w.K f (rdR w a) σ H Q := by
  obtain ⟨C, F, e, R, P⟩ := h
  refine rd_opd (bindP R P fun F1 H1 e1 x v h1 R1 E1 q1 P1 => ?_)
  obtain ⟨z, hz, P2⟩ := post_ofO P1
  obtain ⟨d, hd, hf⟩ := Option.bind_eq_some_iff.mp hz
  have q := (RvR.peek R1 (opd_still h1) q1 hd)
  unfold attrD at hf
  split at hf
  · rename_i n kvs
    obtain ⟨dd, hdd, rfl⟩ := Option.map_eq_some_iff.mp hf
    cases q with
    | oth q =>
      obtain ⟨a, Cc, dx, fs, ds, rfl, xk, k1, k2, k3, rfl⟩ := dp_exc q
      obtain ⟨v2, hv2, q2⟩ := atF_zip k3 hdd
      exact ⟨a, Cc, dx, n, fs, v2, rfl, xk, R1.ext _ _ k1, R1.ext _ _ k2, hv2, P2.ok' R1 q2⟩
  · cases hf
theorem ve_attr {X : Cx} {w : Wd} {ex : Expr} {ea : Ev} {pos : Pos} {f : Str} (hw : w.K = X.K) (hf : f ∈ excFlds) (he : PE X ex (rdR w ea)) (hb : attributeBase ex f X.env (eval ex X.env) = eval ex X.env := by rfl) : PE X (.Attribute ex f pos) (rdR w (un1 (attrD f) ea)) :=
  pe_mono (pe_xfE hf he hb) fun _ _ _ h => hw ▸ rd_attr h
end VI
set_option Elab.async false
set_option linter.all false
set_option maxRecDepth 100000
set_option maxHeartbeats 4000000
namespace VI
open PySem PySem.Spec PyProof.Rows L2
variable {K : PySem.W.Frag} {C : Cf} {F H : Hp} {e e' : Env} {σ : L2.St}
abbrev plainTs : List String := ["NoneType", "bool", "int", "str", "list", "tuple", "dict"]
/-- how a class is asked for: by what of the data -/
structure KindX (K : PySem.W.Frag) (u : Value) (f : D → Bool) : Prop where
  base : ∀ n ∈ plainTs, PySem.W.kitOne K (.type n) u = some false
  pl : ∀ d, excNm d = none → f d = false
  exc : ∀ C n kvs, ExK K C n → PySem.W.kitOne K (.ref C) u = some (f (.dict ((.none, .str n) :: kvs)))
def isOwn (n : Str) : D → Bool := fun d => match excNm d with
  | some m => decide (m = n)
  | none => false
def isErr (B : String) : D → Bool := fun d => match excNm d with
  | some m => decide (B = excBase m)
  | none => false
/-- what the written part says of an own class that is asked for -/
structure OwnC (K : PySem.W.Frag) (S : Addr) (n : Str) : Prop where
  nm : clsNm K S = some n
  ty : PySem.W.typeIn K (.ref S) = some (.type "type")
  base : ∀ n ∈ plainTs, PySem.W.kitOne K (.type n) (.ref S) = some false
theorem own_kit {C S : Addr} {n m : Str} (x : ExK K C n) (o : OwnC K S m) : PySem.W.kitOne K (.ref C) (.ref S) = some (decide (n = m)) := by
  unfold PySem.W.kitOne
  split
  · rename_i h
    have h : Value.ref C = Value.ref S := beq_iff_eq.mp h
    injection h with h
    have e := x.nm
    rw [h, o.nm] at e
    have e : m = n := Option.some.inj e
    rw [decide_eq_true e.symm]
  · have hc : (PySem.W.clsIn K S).isSome = true := by
      have := o.nm
      unfold clsNm at this
      cases h : PySem.W.clsIn K S with
      | none => rw [h] at this; cases this
      | some _ => rfl
    show (if ((PySem.W.clsIn K S).isSome && PySem.W.typeIn K (.ref S) == some (.type "type")) = true then PySem.W.subIn K (.ref C) (.ref S) else none) = _
    rw [hc, o.ty, if_pos (by decide)]
    exact x.own S m o.nm o.ty
theorem kind_own {S : Addr} {n : Str} (o : OwnC K S n) : KindX K (.ref S) (isOwn n) := ⟨o.base, fun d h => by unfold isOwn; rw [h], fun C m kvs x => by rw [own_kit x o]; rfl⟩
theorem kind_err {B : String} (hB : B ∈ askedB) (hb : ∀ n ∈ plainTs, kitB n B = some false) : KindX K (.type B) (isErr B) := ⟨fun n hn => kit_ty (hb n hn), fun d h => by unfold isErr; rw [h], fun C m kvs x => by rw [x.asked B hB]; rfl⟩
theorem ty_ofX {v : V} {d : D} (E : Ext F H) (h : Dh K F H v d) : ∃ t, TyE K H v t ∧ ∀ u f, KindX K u f → PySem.W.kitOne K t u = some (f d) := by
  have pl : ∀ {d : D} {n : String}, excNm d = none → n ∈ plainTs → ∀ u f, KindX K u f → PySem.W.kitOne K (.type n) u = some (f d) := fun h1 h2 u f k => by rw [k.base _ h2, k.pl _ h1]
  cases h with
  | non => exact ⟨_, .one (.base .non), pl rfl (by decide)⟩
  | bl b => exact ⟨_, .one (.base (.bl b)), pl rfl (by decide)⟩
  | int b => exact ⟨_, .one (.base (.int b)), pl rfl (by decide)⟩
  | str b => exact ⟨_, .one (.base (.str b)), pl rfl (by decide)⟩
  | lst h1 d1 =>
    refine ⟨.type "list", .one ?_, pl rfl (by decide)⟩
    rcases h1 with h1 | ⟨o, h1⟩
    · exact .base (.lst h1)
    · exact .base (.frz h1)
  | tup h1 d1 =>
    refine ⟨.type "tuple", .one ?_, pl rfl (by decide)⟩
    rcases ext_t E h1 with h1 | ⟨o, its, n, h1, h2, _⟩
    · rcases h1 with h1 | ⟨o, h1⟩
      · exact .base (.tup h1)
      · exact .fTuple h1
    · exact .kTuple h1 h2
  | oth h =>
    cases h with
    | exc x h1 h2 r => exact ⟨_, .exc x (E _ _ h1) ⟨_, E _ _ h2⟩, fun u f k => k.exc _ _ _ x⟩
    | @dcT a od kv ds h1 r =>
      refine ⟨_, .dcT (.inr ⟨_, E _ _ h1⟩), pl ?_ (by decide)⟩
      cases kv with
      | nil => rfl
      | cons p kv => cases r; rfl
    | @dcK a od kv ds h1 r =>
      refine ⟨_, .dcK (.inr ⟨_, E _ _ h1⟩), pl ?_ (by decide)⟩
      cases kv with
      | nil => rfl
      | cons p kv =>
        cases r
        obtain ⟨k, v⟩ := p
        cases k <;> rfl
/-- the name of a class, as an expression -/
inductive ClsE (X : Cx) : Expr → V → Value → Prop
  | own {x : Str} {p : Pos} {S : Addr} : Gl X x → X.mg x = some (.ref S) → (x == ("__debug__" : Str)) = false → ClsE X (.Name x p) (.ref S) (.ref S)
  | bt {x : Str} {p : Pos} {n : String} : Gl X x → X.mg x = none → bootBuiltins x = some (.type n) → x ≠ "__name__" → (x == ("__debug__" : Str)) = false → ClsE X (.Name x p) (.ty n) (.type n)
theorem ClsE.pe {X : Cx} {ex : Expr} {v : V} {u : Value} (h : ClsE X ex v u) : PE X ex (tC v) := by
  cases h with
  | own h1 h2 h3 => exact pe_glob (v := .ref _) h1 h2 rfl h3
  | bt h1 h2 h3 h4 h5 => exact pe_bltn (v := .ty _) h1 h2 h3 rfl h4 h5
theorem ClsE.cls {X : Cx} {ex : Expr} {v : V} {u : Value} (h : ClsE X ex v u) : ClsV v u := by
  cases h with
  | own => exact .own _
  | bt => exact .ty _
/-- several -/
inductive ClsEs (X : Cx) : List Expr → List V → List Value → List (D → Bool) → Prop
  | nil : ClsEs X [] [] [] []
  | cons {ex : Expr} {v : V} {u : Value} {f : D → Bool} {es : List Expr} {vs : List V} {us : List Value} {fs : List (D → Bool)} : ClsE X ex v u → KindX X.K u f → starEach (ex :: es) X.env = (false, eval ex X.env) :: starEach es X.env → ClsEs X es vs us fs → ClsEs X (ex :: es) (v :: vs) (u :: us) (f :: fs)
def tCs (vs : List V) : TA := fun σ H Q => Q vs H
theorem ClsEs.pa {X : Cx} : ∀ {es : List Expr} {vs : List V} {us : List Value} {fs : List (D → Bool)}, ClsEs X es vs us fs → PA X es (tCs vs)
  | _, _, _, _, .nil => pa_mono pa_nil fun _ _ _ h => h
  | _, _, _, _, .cons h _ s r => pa_mono (pa_cons h.pe r.pa s) fun _ _ _ h => h
theorem ClsEs.cls {X : Cx} : ∀ {es : List Expr} {vs : List V} {us : List Value} {fs : List (D → Bool)}, ClsEs X es vs us fs → Paired ClsV vs us
  | _, _, _, _, .nil => .nil
  | _, _, _, _, .cons h _ _ r => .cons h.cls r.cls
theorem ClsEs.kit {X : Cx} {t : Value} {d : D} (hk : ∀ u f, KindX X.K u f → PySem.W.kitOne X.K t u = some (f d)) : ∀ {es : List Expr} {vs : List V} {us : List Value} {fs : List (D → Bool)}, ClsEs X es vs us fs → PySem.W.kitAny X.K t us = some (fs.any fun f => f d)
  | _, _, _, _, .nil => kitAny_nil
  | _, _, _, _, .cons (f := f) h k _ r => by
    rw [List.any_cons]
    refine kitAny_cons (b := f d) (hk _ _ k) (fun e => ?_) (fun e => by rw [e]; rfl)
    rw [e, Bool.false_or]
    exact ClsEs.kit hk r
section
variable {X : Cx} {w : Wd} {a ex : Expr} {ea : Ev} {v : V} {u : Value} {f : D → Bool} {p p4 pos : Pos}
theorem rd_isx {K : PySem.W.Frag} {w : Wd} (hw : w.K = K) (hc : ClsV v u) (k : KindX K u f) {Q : VK} (h : rdR w (un1 (isD [f]) ea) σ H Q) : tCB (rIsX K) (tCons (rdR w ea) (tCons (tC v) tNil)) σ H Q := by
  subst hw
  obtain ⟨C, F, e, R, P⟩ := h
  refine rd_opd (bindP R P fun F1 H1 e1 x v1 h1 R1 E1 q1 P1 => ?_)
  obtain ⟨z, hz, P2⟩ := post_ofO P1
  obtain ⟨d, hd, hf⟩ := Option.bind_eq_some_iff.mp hz
  cases hf
  obtain ⟨t, h2, h3⟩ := ty_ofX R1.ext (RvR.peek R1 (opd_still h1) q1 hd)
  refine ⟨v1, v, t, u, f d, rfl, hc, h2, h3 u f k, ?_⟩
  have := P2.ok' R1 (.bl _ : RvR w.K C F1 H1 e1 σ (.fz (.bool ([f].any fun f => f d))) _)
  rwa [List.any_cons, List.any_nil, Bool.or_false] at this
theorem ve_isx (hw : w.K = X.K) (hg : Gl X "isinstance") (hm : X.mg "isinstance" = none) (hc : ClsE X ex v u) (k : KindX X.K u f) (ha : PE X a (rdR w ea))
    (h1 : starEach [a, ex] X.env = (false, eval a X.env) :: starEach [ex] X.env := by rfl) (h2 : starEach [ex] X.env = (false, eval ex X.env) :: starEach [] X.env := by rfl)
    (hpl : (backTo pos (starEach [ex] X.env)).any (·.1) = false := by rfl) : PE X (.Call (.Name "isinstance" p) [a, ex] [] pos) (rdR w (un1 (isD [f]) ea)) :=
  pe_mono (pe_callB call_isX hg hm PyProof.Rows.boot_isinstance (pa_cons ha (pa_cons hc.pe pa_nil h2) h1) (by decide) (by decide) h1 hpl) fun _ _ _ h => rd_isx hw hc.cls k h
theorem ve_isxT {es : List Expr} {vs : List V} {us : List Value} {fs : List (D → Bool)} {j : Nat} (hw : w.K = X.K) (hg : Gl X "isinstance") (hm : X.mg "isinstance" = none) (hc : ClsEs X es vs us fs) (hl : vs.length ≤ 1000) (ha : PE X a (rdR w ea))
    (h1 : starEach [a, .Tuple es j p4] X.env = (false, eval a X.env) :: starEach [.Tuple es j p4] X.env := by rfl)
    (h2 : starEach [.Tuple es j p4] X.env = (false, eval (.Tuple es j p4) X.env) :: starEach [] X.env := by rfl)
    (hpl : (backTo pos (starEach [.Tuple es j p4] X.env)).any (·.1) = false := by rfl) : PE X (.Call (.Name "isinstance" p) [a, .Tuple es j p4] [] pos) (rdR w (un1 (isD fs) ea)) :=
  pe_mono (pe_callB call_isXT hg hm PyProof.Rows.boot_isinstance (pa_cons ha (pa_cons (pe_tup hc.pa) pa_nil h2) h1) (by decide) (by decide) h1 hpl) fun σ H Q h => by
    obtain ⟨C, F, e, R, P⟩ := h
    refine rd_opd (bindP R P fun F1 H1 e1 x v1 h1 R1 E1 q1 P1 => ?_)
    obtain ⟨z, hz, P2⟩ := post_ofO P1
    obtain ⟨d, hd, hf⟩ := Option.bind_eq_some_iff.mp hz
    cases hf
    refine ⟨by rw [sizeLine_eq]; omega, fun q hq => ?_⟩
    have R2 := R1.growT (o := .tup vs) hq
    have EF : Ext F1 (upd F1 q (.tup vs)) := Ext.new (R1.ext.free hq)
    have q2 := RvR.peek R2 (opd_still h1) (RvR.later (e' := e1) (H' := upd H1 q (.tup vs)) (opd_still h1) EF q1) hd
    rw [hw] at q2
    obtain ⟨t, h2, h3⟩ := ty_ofX R2.ext q2
    refine ⟨v1, q, vs, t, us, fs.any fun f => f d, rfl, upd_same, hc.cls, h2, ClsEs.kit h3 hc, ?_⟩
    exact (Post.mono EF P2).ok' R2 (.bl _)
end
end VI
set_option Elab.async false
set_option linter.all false
set_option maxRecDepth 100000
set_option maxHeartbeats 4000000
namespace PySem.W
open PySem PySem.Spec PySem.Calls PyProof.Rows
section
variable {M : Model} {K : Frag}
end
end PySem.W
set_option Elab.async false
set_option linter.all false
set_option maxRecDepth 100000
set_option maxHeartbeats 4000000
namespace VI
open PySem PySem.Spec PyProof.Rows L2
section
variable {X : Cx} {pins : List (Addr × Obj)} {σ : L2.St} {H : Hp} {s : Shared}
/-- the classes that an except clause names -/
inductive TyOk (X : Cx) : Expr → List Value → Prop
  | one {ex : Expr} {v : V} {u : Value} : ClsE X ex v u → TyOk X ex [u]
  | many {es : List Expr} {us : List Value} {k : Nat} {p : Pos} : (∀ (a : Addr) (pn pins : List (Addr × Obj)) (σ : L2.St) (H : Hp) (s : Shared) (E : Value → Shared → Prop) (Q : List Value → Shared → Prop), L2.Inv (X.suite a pn) pins σ H s → Q us s → wpAny (model X.prog X.w) (X.A.mark (some (.ref a))) (spliced (backTo p (starEach es X.env))) Q E s) → us.length ≤ 1000 → TyOk X (.Tuple es k p) us
inductive CEs (X : Cx) : List Expr → List Value → Prop
  | nil : CEs X [] []
  | cons {ex : Expr} {v : V} {u : Value} {es : List Expr} {us : List Value} : ClsE X ex v u → starEach (ex :: es) X.env = (false, eval ex X.env) :: starEach es X.env → CEs X es us → CEs X (ex :: es) (u :: us)
theorem ClsE.ld {ex : Expr} {v : V} {u : Value} (h : ClsE X ex v u) {a : Addr} {pn : List (Addr × Obj)} (I : L2.Inv (X.suite a pn) pins σ H s) {E : Value → Shared → Prop} {Q : Value → Shared → Prop} (q : Q u s) : wpAny (model X.prog X.w) (X.A.mark (some (.ref a))) (eval ex X.env) Q E s := by
  cases h with
  | own h1 h2 h3 => exact ld_glob (X := X.suite a pn) I h1 h2 q h3
  | bt h1 h2 h3 h4 h5 => exact ld_blt (X := X.suite a pn) I h1 h2 h3 q h4 h5
theorem CEs.run {p : Pos} : ∀ {es : List Expr} {us : List Value}, CEs X es us → ∀ (a : Addr) (pn pins : List (Addr × Obj)) (σ : L2.St) (H : Hp) (s : Shared) (E : Value → Shared → Prop) (Q : List Value → Shared → Prop), L2.Inv (X.suite a pn) pins σ H s → Q us s → wpAny (model X.prog X.w) (X.A.mark (some (.ref a))) (spliced (backTo p (starEach es X.env))) Q E s
  | _, _, .nil, a, pn, pins, σ, H, s, E, Q, I, q => PyProof.Rows.args_nil q
  | _, _, .cons (ex := ex) (es := es) h hs r, a, pn, pins, σ, H, s, E, Q, I, q => by
    rw [hs]
    show wpAny _ _ (spliced ((false, eval ex X.env) :: backTo p (starEach es X.env))) _ _ s
    exact Calls.spliced_cons (h.ld I (CEs.run r a pn pins σ H s E _ I q))
end
section
variable {X : Cx} {n : Str} {i j : Nat} {cs : List Value} {ty : Expr} {body suite : List Stmt} {b₀ : Stmt} {pos pos' : Pos} {tb : WX → TS} {Wout : WX}
end
end VI
set_option Elab.async false
set_option linter.all false
set_option maxRecDepth 100000
set_option maxHeartbeats 4000000
namespace VI
open PySem PySem.Spec PyProof.Rows L2
variable {K : PySem.W.Frag} {C : Cf} {F H : Hp} {e e' : Env} {σ : L2.St}
/-- an error as data -/
def errD (x : Xc) : D := .dict ((.none, .str x.cls) :: x.fs.map fun p => (.str p.1, p.2))
theorem errD_dp {F : Hp} {a Cc d : Addr} {x : Xc} {fs : List (Str × V)} (xk : ExK K Cc x.cls) (h1 : F a = some (exk a Cc d)) (h2 : F d = some (.xd fs)) (h3 : fs.map (·.1) = x.fs.map (·.1)) (h4 : DpAll K F (fs.map (·.2)) (x.fs.map (·.2))) : Dp K F (.ref a) (errD x) := by
  have e : ((fs.map fun p => PyData.str p.1).zip (x.fs.map (·.2))) = x.fs.map fun p => (PyData.str p.1, p.2) := by
    have : (fs.map fun p => PyData.str p.1) = x.fs.map fun p => PyData.str p.1 := by
      have := congrArg (List.map PyData.str) h3
      rw [List.map_map, List.map_map] at this
      exact this
    rw [this, List.zip_map']
  unfold errD
  rw [← e]
  exact .exc xk h1 h2 h4
/-- an own class that an except clause names -/
structure CatC (K : PySem.W.Frag) (S : Addr) (n : Str) : Prop where
  own : OwnC K S n
  bex : PySem.W.subIn K (.ref S) (.type "BaseException") = some true
/-- the values of the classes named so -/
inductive Cats (K : PySem.W.Frag) : List Value → List Str → Prop
  | nil : Cats K [] []
  | cons {S : Addr} {n : Str} {us : List Value} {ns : List Str} : CatC K S n → Cats K us ns → Cats K (.ref S :: us) (n :: ns)
section
variable {X : Cx} {W : WX} {n : Str} {i j : Nat} {us : List Value} {ns : List Str} {ty : Expr} {body suite : List Stmt} {b₀ : Stmt} {b : St1} {pos pos' : Pos}
end
end VI
set_option Elab.async false
set_option linter.all false
set_option maxRecDepth 100000
set_option maxHeartbeats 4000000
namespace VI
open PySem PySem.Spec PyProof.Rows L2
abbrev bmLookup : List Value := [.type "LookupError", .type "Exception", .type "BaseException", .type "object"]
abbrev bmValue : List Value := [.type "ValueError", .type "Exception", .type "BaseException", .type "object"]
abbrev bmRuntime : List Value := [.type "RuntimeError", .type "Exception", .type "BaseException", .type "object"]
abbrev bmOverflow : List Value := [.type "OverflowError", .type "ArithmeticError", .type "Exception", .type "BaseException", .type "object"]
/-- the first statement of a class's body -/
def initOf : Stmt → Stmt
  | .ClassDef _ _ _ (b :: _) _ _ _ _ _ _ _ => b
  | s => s
/-- a class of errors that is raised -/
structure ErrT (K : PySem.W.Frag) (mg : Str → Option Value) (n f : Str) (newId : String) (bmB : List Value) (qual : Str) (st : Stmt) : Prop where
  ex : ∃ C fI fd, mg n = some (.ref C) ∧ OexE K C newId bmB ∧ ExK K C n ∧ PySem.W.findIn K (.ref C) "__init__" = some (some (.ref fI)) ∧ PySem.W.typeIn K (.ref fI) = some (.type "function") ∧ Fun K "__init__" qual st fI fd ∧ Binds K fd [("self" : Str), f] []
/-- a class of errors that is asked for, or caught -/
structure CatT (K : PySem.W.Frag) (mg : Str → Option Value) (n : Str) : Prop where
  ex : ∃ S, mg n = some (.ref S) ∧ CatC K S n
section
variable {X : Cx} {W : WX} {ex : Expr} {a : Ev} {p pos pos2 : Pos} {B newId initId : String} {bmB : List Value} {x f qual : Str} {st : Stmt}
theorem clsE_of {p : Pos} {n : Str} (c : CatT X.K X.mg n) (hg : Gl X n) (hd : (n == ("__debug__" : Str)) = false := by decide) : ∃ v u, ClsE X (.Name n p) v u ∧ KindX X.K u (isOwn n) := by
  obtain ⟨S, hm, h⟩ := c.ex
  exact ⟨_, _, .own hg hm hd, kind_own h.own⟩
theorem clsB_of {p : Pos} {n : Str} {B : String} (hg : Gl X n) (hm : X.mg n = none) (hv : bootBuiltins n = some (.type B)) (hB : B ∈ askedB) (hb : ∀ t ∈ plainTs, kitB t B = some false) (hn : n ≠ "__name__" := by decide) (hd : (n == ("__debug__" : Str)) = false := by decide) : ∃ v u, ClsE X (.Name n p) v u ∧ KindX X.K u (isErr B) :=
  ⟨_, _, .bt hg hm hv hn hd, kind_err hB hb⟩
/-- several, told one by one -/
theorem clss_nil : ∃ vs us, ClsEs X [] vs us [] ∧ vs.length = 0 := ⟨_, _, .nil, rfl⟩
theorem clss_cons {ex : Expr} {es : List Expr} {g : D → Bool} {gs : List (D → Bool)} {k : Nat} (h : ∃ v u, ClsE X ex v u ∧ KindX X.K u g) (r : ∃ vs us, ClsEs X es vs us gs ∧ vs.length = k) (hs : starEach (ex :: es) X.env = (false, eval ex X.env) :: starEach es X.env := by rfl) : ∃ vs us, ClsEs X (ex :: es) vs us (g :: gs) ∧ vs.length = k + 1 := by
  obtain ⟨v, u, h1, h2⟩ := h
  obtain ⟨vs, us, h3, h4⟩ := r
  exact ⟨_, _, .cons h1 h2 hs h3, by rw [List.length_cons, h4]⟩
variable {w : Wd} {e0 : Expr} {ea : Ev} {p4 : Pos}
theorem ve_isE {g : D → Bool} (hw : w.K = X.K) (hg : Gl X "isinstance") (hm : X.mg "isinstance" = none) (hc : ∃ v u, ClsE X ex v u ∧ KindX X.K u g) (ha : PE X e0 (rdR w ea))
    (h1 : starEach [e0, ex] X.env = (false, eval e0 X.env) :: starEach [ex] X.env := by rfl) (h2 : starEach [ex] X.env = (false, eval ex X.env) :: starEach [] X.env := by rfl)
    (hpl : (backTo pos (starEach [ex] X.env)).any (·.1) = false := by rfl) : PE X (.Call (.Name "isinstance" p) [e0, ex] [] pos) (rdR w (un1 (isD [g]) ea)) := by
  obtain ⟨v, u, h3, h4⟩ := hc
  exact ve_isx hw hg hm h3 h4 ha h1 h2 hpl
theorem ve_isEs {es : List Expr} {gs : List (D → Bool)} {j k : Nat} (hw : w.K = X.K) (hg : Gl X "isinstance") (hm : X.mg "isinstance" = none) (hc : ∃ vs us, ClsEs X es vs us gs ∧ vs.length = k) (hk : k ≤ 1000) (ha : PE X e0 (rdR w ea))
    (h1 : starEach [e0, .Tuple es j p4] X.env = (false, eval e0 X.env) :: starEach [.Tuple es j p4] X.env := by rfl)
    (h2 : starEach [.Tuple es j p4] X.env = (false, eval (.Tuple es j p4) X.env) :: starEach [] X.env := by rfl)
    (hpl : (backTo pos (starEach [.Tuple es j p4] X.env)).any (·.1) = false := by rfl) : PE X (.Call (.Name "isinstance" p) [e0, .Tuple es j p4] [] pos) (rdR w (un1 (isD gs) ea)) := by
  obtain ⟨vs, us, h3, h4⟩ := hc
  exact ve_isxT hw hg hm h3 (by omega) ha h1 h2 hpl
end
def flB (K : PySem.W.Frag) (C : Addr) : Bool := excFlds.all fun f => decide (PySem.W.findIn K (.ref C) f = some none)
def askB (K : PySem.W.Frag) (C : Addr) (n : Str) : Bool := askedB.all fun T => decide (PySem.W.kitOne K (.ref C) (.type T) = some (decide (T = excBase n)))
def ownB (K : PySem.W.Frag) (C : Addr) (n : Str) : Bool := K.all fun p => match clsNm K p.1 with
  | none => true
  | some m => !decide (PySem.W.typeIn K (.ref p.1) = some (.type "type")) || decide (PySem.W.subIn K (.ref C) (.ref p.1) = some (decide (n = m)))
def plB (K : PySem.W.Frag) (S : Addr) : Bool := plainTs.all fun n => decide (PySem.W.kitOne K (.type n) (.ref S) = some false)
theorem own_of {K : PySem.W.Frag} {C : Addr} {n : Str} (h : ownB K C n = true) : ∀ S m, clsNm K S = some m → PySem.W.typeIn K (.ref S) = some (.type "type") → PySem.W.subIn K (.ref C) (.ref S) = some (decide (n = m)) := by
  intro S m h1 h2
  have : ∃ o, K.lookup S = some o := by
    unfold clsNm PySem.W.clsIn at h1
    cases e : K.lookup S with
    | none => rw [e] at h1; cases h1
    | some o => exact ⟨o, rfl⟩
  obtain ⟨o, ho⟩ := this
  have hh := List.all_eq_true.mp h _ (lookup_mem ho)
  simp only [h1, h2, decide_true, Bool.not_true, Bool.false_or, decide_eq_true_eq] at hh
  exact hh
theorem err_mk {K : PySem.W.Frag} {h : Heap} {mg : Str → Option Value} {n f qual : Str} {newId : String} {bmB : List Value} {st : Stmt} {C fI N : Addr} {nm : Str} {bs : List Value} {sn : List Str} {sub : List Value} {ab : Bool} {col : Option Bool} {dd : Option Addr} {m0 m1 m2 m3 m5 : Option Value}
    {od an : Option Addr} {sl : Array (Option Value)} {oc kV dc pm cd ct : Value} (X : K.In h) (G : h.Ns mainGlobals mg)
    (aC : PySem.W.nsIn K mainGlobals n = some (some (.ref C))) (xL : K.lookup C = some (excClassObj nm n C N bs bmB true sn sub ab col dd m0 m1 m2 m3 m5 newId))
    (sa : PySem.W.findIn K (.ref C) "__setattr__" = some (some (.builtin "object.__setattr__"))) (ga : PySem.W.findIn K (.ref C) "__getattribute__" = some (some (.builtin "BaseException.__getattribute__"))) (gg : PySem.W.findIn K (.ref C) "__getattr__" = some none)
    (gc : PySem.W.findIn K (.ref C) "__class__" = some (some (.builtin "object.__class__"))) (sg : PySem.W.specialIn K (.builtin "object.__class__") "__get__" = some (some (.builtin "getset_descriptor.__get__"))) (tg : PySem.W.takesIn K (.builtin "object.__class__") = some true) (mo : PySem.W.mroIn K C (.type "object") = some true)
    (i1 : PySem.W.findIn K (.ref C) "__init__" = some (some (.ref fI))) (t1 : PySem.W.typeIn K (.ref fI) = some (.type "function"))
    (l1 : K.lookup fI = some ⟨oc, od, .func (PySem.W.fnOf "__init__" qual (defArgs st) (defBody st) (defScope st) .none kV dc pm an cd ct), sl⟩) (c1 : PySem.W.codeIn K cd qual = true) (k1 : PySem.W.keepIn K (.ref fI) = true)
    (kC : PySem.W.keepIn K (.ref C) = true) (eC : PySem.W.subIn K (.ref C) (.type "BaseException") = some true) (tC : PySem.W.typeIn K (.ref C) = some (.type "type")) (hC : PySem.W.hasDictIn K C = true)
    (fl : flB K C = true) (ak : askB K C n = true) (ow : ownB K C n = true)
    (hb : ∀ fd, Fun K "__init__" qual st fI fd → Binds K fd [("self" : Str), f] []) : ErrT K mg n f newId bmB qual st := by
  have F : Fun K "__init__" qual st fI _ := fun_mk (st := st) l1 c1 k1
  refine ⟨C, fI, _, PySem.W.mg_of X G aC, ⟨⟨nm, n, N, bs, sn, sub, ab, col, dd, m0, m1, m2, m3, m5, xL⟩, sa, eC, tC, kC⟩, ⟨?_, ⟨ga, gg, eC, hC, gc, sg, tg, mo⟩, tC, fun T hT => ?_, fun g hg => ?_, own_of ow⟩, i1, t1, F, hb _ F⟩
  · unfold clsNm PySem.W.clsIn; rw [xL] <;> rfl
  · exact of_decide_eq_true (List.all_eq_true.mp ak T hT)
  · exact of_decide_eq_true (List.all_eq_true.mp fl g hg)
theorem cat_mk {K : PySem.W.Frag} {h : Heap} {mg : Str → Option Value} {n : Str} {S : Addr} (X : K.In h) (G : h.Ns mainGlobals mg) (aC : PySem.W.nsIn K mainGlobals n = some (some (.ref S))) (nm : clsNm K S = some n) (tC : PySem.W.typeIn K (.ref S) = some (.type "type")) (eC : PySem.W.subIn K (.ref S) (.type "BaseException") = some true) (pl : plB K S = true) : CatT K mg n :=
  ⟨S, PySem.W.mg_of X G aC, ⟨nm, tC, fun t ht => of_decide_eq_true (List.all_eq_true.mp pl t ht)⟩, eC⟩
end VI
namespace VI
open PySem
theorem bb_KeyError : bootBuiltins "KeyError" = some (.type "KeyError") := by decide +kernel
theorem bb_NotImplementedError : bootBuiltins "NotImplementedError" = some (.type "NotImplementedError") := by decide +kernel
end VI
set_option Elab.async false
set_option linter.all false
set_option maxRecDepth 100000
set_option maxHeartbeats 4000000
namespace VI
open PySem PySem.Spec PyProof.Rows L2
abbrev Px := Xc → Env → Prop
def Ex {α : Type} (r : Rs α) (P : Px) : Prop := match r with
  | .ex x e => P x e
  | _ => False
section
variable {α β : Type} {e : Env} {i j n : Nat} {d : D} {ds : List D} {a b : Ev} {p q : St1} {ps : List St1} {c : Sem1 Bool} {P : Px} {f nm : Str} {fn : List D → Option Ret} {as : Sem1 (List D)}
theorem ex_get {r : Rs α} (h : Ex r P) : ∃ x e, r = .ex x e ∧ P x e := by
  cases r with
  | ex x e => exact ⟨x, e, rfl, h⟩
  | ok _ _ => exact h.elim
  | no => exact h.elim
theorem Ex.mono {r : Rs α} {P' : Px} (h : Ex r P) (k : ∀ x e, P x e → P' x e) : Ex r P' := by
  obtain ⟨x, e, rfl, q⟩ := ex_get h; exact k _ _ q
def kXS (q : St1) (P : Px) : Po Fl := fun w e => match w with
  | .nx => Ex (q e) P
  | _ => False
@[simp] theorem kXS_nx : kXS q P .nx e = Ex (q e) P := rfl
def kXI (p q : St1) (P : Px) : Po Bool := fun b e => Ex (if b then p e else q e) P
@[simp] theorem kXI_t : kXI p q P true e = Ex (p e) P := rfl
@[simp] theorem kXI_f : kXI p q P false e = Ex (q e) P := rfl
def kXR (nm f : Str) (P : Px) : Po D := fun d e => P ⟨nm, [(f, d)]⟩ e
@[simp] theorem kXR_eq : kXR nm f P d e = P ⟨nm, [(f, d)]⟩ e := rfl
def exFn (z : Option Ret) (e : Env) (P : Px) : Prop := match z with
  | some (.ex x) => P x e
  | _ => False
@[simp] theorem exFn_ex {x : Xc} : exFn (some (.ex x)) e P = P x e := rfl
def kXF (fn : List D → Option Ret) (P : Px) : Po (List D) := fun ds e => exFn (fn ds) e P
@[simp] theorem kXF_eq : kXF fn P ds e = exFn (fn ds) e P := rfl
def kXV (a b : Ev) (P : Px) : Po Bool := fun z e => Ex (if z then a e else b e) P
@[simp] theorem kXV_t : kXV a b P true e = Ex (a e) P := rfl
@[simp] theorem kXV_f : kXV a b P false e = Ex (b e) P := rfl
def kTry (ns : List Str) (i j : Nat) (Q : Po Fl) : Px := fun x e1 => ns.contains x.cls = true ∧ freeAt e1 i = true ∧ freeAt e1 j = true ∧ Q .nx (((e1.set i (some (.fz (errD x)))).set j (some (.fz (errD x)))).set i none)
@[simp] theorem kTry_eq {ns : List Str} {Q : Po Fl} {x : Xc} : kTry ns i j Q x e = (ns.contains x.cls = true ∧ freeAt e i = true ∧ freeAt e j = true ∧ Q .nx (((e.set i (some (.fz (errD x)))).set j (some (.fz (errD x)))).set i none)) := rfl
@[simp] theorem freeAt_none {xs : List (Option Sv)} {k : Nat} (h : xs[k]? = some none) : freeAt xs k = true := by unfold freeAt; rw [h]
@[simp] theorem freeAt_fz {xs : List (Option Sv)} {k : Nat} (h : xs[k]? = some (some (.fz d))) : freeAt xs k = true := by unfold freeAt; rw [h]
end
section
variable {c : Str} {fs : List (Str × D)} {n : Str} {B : String} {f : Str}
@[simp] theorem isOwn_err : isOwn n (errD ⟨c, fs⟩) = decide (c = n) := rfl
@[simp] theorem isErr_err : isErr B (errD ⟨c, fs⟩) = decide (B = excBase c) := rfl
@[simp] theorem attr_err {d : D} : attrD f (errD ⟨c, [(f, d)]⟩) = some (.fz d) := by
  unfold attrD errD
  simp [atF]
@[simp] theorem isOwn_none : isOwn n .none = false := rfl
@[simp] theorem isErr_none : isErr B .none = false := rfl
end
end VI
set_option Elab.async false
set_option linter.all false
set_option maxRecDepth 100000
set_option maxHeartbeats 4000000
namespace VI
open PySem PySem.Spec PyProof.Rows L2
section
variable {K : PySem.W.Frag} {C : Cf} {F H : Hp} {e e' : Env} {σ : L2.St}
/-- what an __init__ of two fields does -/
def spE2 (C : Addr) (f g : Str) : Sp := fun vs H Q _ => ∃ a v w, vs = [.ref a, v, w] ∧ H a = some (exo a C none) ∧ ∀ d, H d = none → d ≠ a → Q .non (upd (upd (upd H d (exd d [(f, v)])) a (exo a C (some d))) d (exd d [(g, w), (f, v)]))
theorem ok_einit2 {P : Program} {w : World} {K : PySem.W.Frag} {mg : Str → Option Value} {base : Heap} {qual : Str} {st : Stmt} {fI C : Addr} {fd : FuncData} {f g : Str} (F1 : Fun K "__init__" qual st fI fd) (T : OexC K C) (hnf : PySem.W.findIn K (.ref C) f = some none) (hng : PySem.W.findIn K (.ref C) g = some none)
    (S : FnScope [("self" : Str), f, g] [("self" : Str), f, g] (defScope st))
    (hbody : ∀ (cdv : Value) (A : Around) (outer : List PySem.Env) (s : Shared) (H : Hp) (E : XK), Room 1 (A.deeper (envOfC qual (defScope st) s.heap.objs.size fI cdv)) →
      PSs (cxOf CX0 P w K mg base [("self" : Str), f, g] qual (defScope st) fI cdv A outer s H E).nox (defBody st) (tSeq (tDrop (tVeI K (tCons (tVar 0) (tCons (tVar 1) (tCons (tVar 2) tNil))))) (tSeq (tOst K f (tVar 0) (tVar 1)) (tOst K g (tVar 0) (tVar 2))))) :
    FnOk P w K mg base CX0 2 fI fd [("self" : Str), f, g] (spE2 C f g) := by
  refine F1.ok S (fun vs H Q E h => ?_) (fun cdv A outer s H vs Q E hr h => ⟨_, hbody cdv A outer s H E hr, ?_⟩)
  · obtain ⟨a, v, w, rfl, _⟩ := h; rfl
  · obtain ⟨a, v, w, rfl, ha, q⟩ := h
    refine ⟨_, rfl, _, rfl, _, rfl, a, C, [v, w], rfl, by show 2 ≤ 1000; omega, T, ha, ?_⟩
    refine ⟨_, rfl, _, rfl, a, C, rfl, T, hnf, .inl ⟨ha, fun dx h1 h2 => ?_⟩⟩
    refine ⟨_, rfl, _, rfl, a, C, rfl, T, hng, .inr ⟨dx, [(f, v)], upd_same, ?_, by show 1 ≤ 900; omega, q dx h1 h2⟩⟩
    rw [upd_ne h2, upd_same]
end
/-- a class of errors of two fields that is raised -/
structure ErrT2 (K : PySem.W.Frag) (mg : Str → Option Value) (n f g : Str) (qual : Str) (st : Stmt) : Prop where
  ex : ∃ C fI fd, mg n = some (.ref C) ∧ OexC K C ∧ ExK K C n ∧ PySem.W.findIn K (.ref C) "__init__" = some (some (.ref fI)) ∧ PySem.W.typeIn K (.ref fI) = some (.type "function") ∧ Fun K "__init__" qual st fI fd ∧ Binds K fd [("self" : Str), f, g] []
section
variable {X : Cx} {W : WX} {ex : Expr} {es : List Expr} {as : Sem1 (List D)} {p pos pos2 : Pos} {x f g qual : Str} {st : Stmt}
end
theorem err_mk2 {K : PySem.W.Frag} {h : Heap} {mg : Str → Option Value} {n f g qual : Str} {st : Stmt} {C fI N : Addr} {nm : Str} {bs : List Value} {sn : List Str} {sub : List Value} {ab : Bool} {col : Option Bool} {dd : Option Addr} {m0 m1 m2 m3 m5 : Option Value}
    {od an : Option Addr} {sl : Array (Option Value)} {oc kV dc pm cd ct : Value} (X : K.In h) (G : h.Ns mainGlobals mg)
    (aC : PySem.W.nsIn K mainGlobals n = some (some (.ref C))) (xL : K.lookup C = some (excClassObj nm n C N bs bmValue true sn sub ab col dd m0 m1 m2 m3 m5 "ValueError.__new__"))
    (sa : PySem.W.findIn K (.ref C) "__setattr__" = some (some (.builtin "object.__setattr__"))) (ga : PySem.W.findIn K (.ref C) "__getattribute__" = some (some (.builtin "BaseException.__getattribute__"))) (gg : PySem.W.findIn K (.ref C) "__getattr__" = some none)
    (gc : PySem.W.findIn K (.ref C) "__class__" = some (some (.builtin "object.__class__"))) (sg : PySem.W.specialIn K (.builtin "object.__class__") "__get__" = some (some (.builtin "getset_descriptor.__get__"))) (tg : PySem.W.takesIn K (.builtin "object.__class__") = some true) (mo : PySem.W.mroIn K C (.type "object") = some true)
    (i1 : PySem.W.findIn K (.ref C) "__init__" = some (some (.ref fI))) (t1 : PySem.W.typeIn K (.ref fI) = some (.type "function"))
    (l1 : K.lookup fI = some ⟨oc, od, .func (PySem.W.fnOf "__init__" qual (defArgs st) (defBody st) (defScope st) .none kV dc pm an cd ct), sl⟩) (c1 : PySem.W.codeIn K cd qual = true) (k1 : PySem.W.keepIn K (.ref fI) = true)
    (kC : PySem.W.keepIn K (.ref C) = true) (eC : PySem.W.subIn K (.ref C) (.type "BaseException") = some true) (tC : PySem.W.typeIn K (.ref C) = some (.type "type")) (hC : PySem.W.hasDictIn K C = true)
    (fl : flB K C = true) (ak : askB K C n = true) (ow : ownB K C n = true)
    (hb : ∀ fd, Fun K "__init__" qual st fI fd → Binds K fd [("self" : Str), f, g] []) : ErrT2 K mg n f g qual st := by
  have F : Fun K "__init__" qual st fI _ := fun_mk (st := st) l1 c1 k1
  refine ⟨C, fI, _, PySem.W.mg_of X G aC, ⟨⟨nm, n, N, bs, bmValue, sn, sub, ab, col, dd, m0, m1, m2, m3, m5, xL, by decide +kernel⟩, sa, eC, tC, kC⟩, ⟨?_, ⟨ga, gg, eC, hC, gc, sg, tg, mo⟩, tC, fun T hT => ?_, fun g hg => ?_, own_of ow⟩, i1, t1, F, hb _ F⟩
  · unfold clsNm PySem.W.clsIn; rw [xL] <;> rfl
  · exact of_decide_eq_true (List.all_eq_true.mp ak T hT)
  · exact of_decide_eq_true (List.all_eq_true.mp fl g hg)
section
variable {e : Env} {P : Px} {n f g : Str} {as : Sem1 (List D)} {c : Str} {d1 d2 : D}
def kXR2 (n f g : Str) (P : Px) : Po (List D) := fun ds e => match ds with
  | [d1, d2] => P ⟨n, [(g, d2), (f, d1)]⟩ e
  | _ => False
@[simp] theorem kXR2_eq : kXR2 n f g P [d1, d2] e = P ⟨n, [(g, d2), (f, d1)]⟩ e := rfl
theorem attr_err2a (hfg : f ≠ g) : attrD f (errD ⟨c, [(g, d2), (f, d1)]⟩) = some (.fz d1) := by
  unfold attrD errD
  simp [atF, hfg]
theorem attr_err2b : attrD g (errD ⟨c, [(g, d2), (f, d1)]⟩) = some (.fz d2) := by
  unfold attrD errD
  simp [atF]
@[simp] theorem isOwn_err2 {m : Str} : isOwn m (errD ⟨c, [(g, d2), (f, d1)]⟩) = decide (c = m) := rfl
end
end VI
set_option Elab.async false
set_option linter.all false
set_option maxRecDepth 100000
set_option maxHeartbeats 4000000
namespace VI
open PySem PySem.HandSPX
section
variable {M : Model} {Ar : Around} {Er : Value → Shared → Prop} {hp : Heap} {gs : Array GenState} {dr : Drawn} {tk : Nat} {osx : OsState}
variable {nm ql : Str} {Cl Nl : Addr} {bs bm bmB : List Value} {hdct : Bool} {sn : List Str} {sub : List Value} {ab : Bool} {col : Option Bool} {dd : Option Addr} {k0 k1 k2 k3 k5 : Option Value} {B newId initId : String}
theorem chk_newK (Fb : ExcBaseFacts B newId initId bmB) (hT : ∀ X : String, bm.contains (.type X) = bmB.contains (.type X)) {rest : List Value} {kw : List (Str × Value)} {Q : Unit → Shared → Prop}
    (atC : hp.get? Cl = some (excClassObj nm ql Cl Nl bs bm hdct sn sub ab col dd k0 k1 k2 k3 k5 newId)) (fin : Q () ⟨hp, gs, dr, tk, osx⟩) : wpAny M Ar (checkBuiltinCall newId ⟨.ref Cl :: rest, kw⟩) Q Er ⟨hp, gs, dr, tk, osx⟩ := by
  have inB : (Value.ref Cl :: bm).contains (.type B) = true := by rw [List.contains_cons, hT, Fb.hasB, Bool.or_true]
  have star1 := Fb.noStar
  simp only [checkBuiltinCall, Fb.newKind, Fb.newSplit, Fb.newRow]
  repeat (first | refine wpAny_loadPart_at atC ?_ | (refine wpAny_isSubtype_exc atC ?_; rw [inB]) | refine wpAny_staticBase_exc atC ?_ | refine wpAny_madeBy_exc atC ?_ | simp only [bne_self_eq_false, Bool.false_eq_true, if_false] | wp_step)
  exact fin
end
section
variable {pg : Program} {wd : World} {Ar : Around} {Er : Value → Shared → Prop} {Rr : Result → Shared → Prop} {hp : Heap} {gs : Array GenState} {dr : Drawn} {tk : Nat} {osx : OsState}
variable {nm ql : Str} {Cl Nl : Addr} {bs bm bmB : List Value} {hdct : Bool} {sn : List Str} {sub : List Value} {ab : Bool} {col : Option Bool} {dd : Option Addr} {k0 k1 k2 k3 k5 : Option Value} {B newId initId : String}
theorem new_K (Fb : ExcBaseFacts B newId initId bmB) (hT : ∀ X : String, bm.contains (.type X) = bmB.contains (.type X)) {rest : List Value} {kw : List (Str × Value)}
    (atC : hp.get? Cl = some (excClassObj nm ql Cl Nl bs bm hdct sn sub ab col dd k0 k1 k2 k3 k5 newId))
    (fin : Rr (.ok (.ret (.ref (hp.objs.size + 1)))) ⟨(hp.push (PySem.W.kdv_tup rest)).push (excO Cl hp.objs.size), gs, dr, tk, osx⟩) (few : rest.length ≤ sizeLine) :
    codeAny (model pg wd) Ar (.builtin newId ⟨.ref Cl :: rest, kw⟩) Rr ⟨hp, gs, dr, tk, osx⟩ := by
  have ends0 := Fb.ends
  have inB : (Value.ref Cl :: bm).contains (.type B) = true := by rw [List.contains_cons, hT, Fb.hasB, Bool.or_true]
  have notA : (Value.ref Cl :: bm).contains (.type "AttributeError") = false := by rw [List.contains_cons, hT, Fb.noAttr]; rfl
  have notN : (Value.ref Cl :: bm).contains (.type "NameError") = false := by rw [List.contains_cons, hT, Fb.noName]; rfl
  refine codeAny_builtinAt Fb.entry ?_
  unfold Builtin.«BaseException.__new__»
  refine wpAt_bind ?_
  show wpAt _ _ _ (stack >>= _) _ _ _
  refine wpAt_bind (wpAt_stack fun p0 below0 => wpAt_of_wpAny ?_)
  wp_walk
  refine wpAt_of_wpAny ?_
  rw [Fb.owner]
  repeat (first | with_reducible refine wpAny_madeHere_exc Fb.canon atC ?_ | with_reducible refine wpAny_loadPart_at atC ?_ | (with_reducible refine wpAny_isSubtype_exc atC ?_; first | rw [inB] | rw [notA] | rw [notN]) | wp_step)
  have hsz : ¬ rest.toArray.size > sizeLine := by
    rw [List.size_toArray]
    exact Nat.not_lt.mpr few
  first
    | (show Rr _ _
       rw [Heap.size_push]
       exact fin)
    | (rw [if_neg hsz]
       repeat (first | with_reducible refine wpAny_madeHere_exc Fb.canon atC ?_ | with_reducible refine wpAny_loadPart_at atC ?_ | (with_reducible refine wpAny_isSubtype_exc atC ?_; first | rw [inB] | rw [notA] | rw [notN]) | wp_step)
       show Rr _ _
       rw [Heap.size_push]
       exact fin)
theorem tcall_K (Fb : ExcBaseFacts B newId initId bmB) (hT : ∀ X : String, bm.contains (.type X) = bmB.contains (.type X)) {rest : List Value} {kw : List (Str × Value)} {fI : Addr} {Q : Fin → Shared → Prop}
    (atC : hp.get? Cl = some (excClassObj nm ql Cl Nl bs bm hdct sn sub ab col dd k0 k1 k2 k3 k5 newId))
    (li : W.Looks (model pg wd) hp (typeLookup (.ref Cl) "__init__") (some (.ref fI))) (lb : ∀ self, W.Looks (model pg wd) hp (bindSpecial (.ref fI) self) (.ref fI, [self])) (few : rest.length ≤ sizeLine)
    (fin : codeAny (model pg wd) Ar (.call (.ref fI) ⟨.ref (hp.objs.size + 1) :: rest, kw⟩)
      (fun r s' => match r with | .ok (.ret v) => v = .none ∧ Q (.done (.ret (.ref (hp.objs.size + 1)))) s' | .ok _ => False | .error e => Er e s')
      ⟨(hp.push (W.kdv_tup rest)).push (excO Cl hp.objs.size), gs, dr, tk, osx⟩) :
    wpAny (model pg wd) Ar (Builtin.«type.__call__» ⟨.ref Cl :: rest, kw⟩) Q Er ⟨hp, gs, dr, tk, osx⟩ := by
  repeat (first | with_reducible refine wpAny_loadPart_at atC ?_ | with_reducible refine wpAny_madeBy_exc atC ?_ | wp_step)
  refine codeAny_call_builtin_code (Code.quiet_builtin _ Fb.quiet) (chk_newK Fb hT atC ?_)
  refine new_K Fb hT atC ?_ few
  show wpAny _ _ _ _ _ _
  have kk : ∀ b o, hp.get? b = some o → ((hp.push (W.kdv_tup rest)).push (excO Cl hp.objs.size)).get? b = some o := fun b o e => Heap.get?_push_of_some _ (Heap.get?_push_of_some _ e)
  have atC1 := kk _ _ atC
  have atE : ((hp.push (W.kdv_tup rest)).push (excO Cl hp.objs.size)).get? (hp.objs.size + 1) = some (excO Cl hp.objs.size) := by heap_get
  have inC : (Value.ref Cl :: bm).contains (.ref Cl) = true := by simp
  have i1 := li.keeps kk
  have b1 := (lb (.ref (hp.objs.size + 1))).keeps kk
  unfold isInstance
  repeat (first | with_reducible refine wpAny_loadPart_at atE ?_ | (with_reducible refine wpAny_isSubtype_exc atC1 ?_; rw [inC]) | wp_step)
  show wpAny _ _ (typeLookup (.ref Cl) _) _ _ _
  refine i1.at ?_
  refine wpAny_holding (wpAny_bind (b1.at ?_))
  refine wpAny_bind (wpAny_call (codeAny_mono fin fun r s' z => ?_))
  rcases r with e | (v | _ | _ | _) <;> first | exact z | exact z.elim | skip
  obtain ⟨rfl, z⟩ := z
  first
    | exact wpAny_pure (wpAny_pure z)
    | (wp_walk; exact z)
theorem callE_K (Fb : ExcBaseFacts B newId initId bmB) (hT : ∀ X : String, bm.contains (.type X) = bmB.contains (.type X)) {rest : List Value} {kw : List (Str × Value)} {fI : Addr}
    (atC : hp.get? Cl = some (excClassObj nm ql Cl Nl bs bm hdct sn sub ab col dd k0 k1 k2 k3 k5 newId))
    (li : W.Looks (model pg wd) hp (typeLookup (.ref Cl) "__init__") (some (.ref fI))) (lb : ∀ self, W.Looks (model pg wd) hp (bindSpecial (.ref fI) self) (.ref fI, [self])) (few : rest.length ≤ sizeLine)
    (fin : codeAny (model pg wd) (Ar.under (.builtin "type.__call__" ⟨.ref Cl :: rest, kw⟩)) (.call (.ref fI) ⟨.ref (hp.objs.size + 1) :: rest, kw⟩) (W.InitBack (hp.objs.size + 1) Rr)
      ⟨(hp.push (W.kdv_tup rest)).push (excO Cl hp.objs.size), gs, dr, tk, osx⟩) :
    codeAny (model pg wd) Ar (.call (.ref Cl) ⟨rest, kw⟩) Rr ⟨hp, gs, dr, tk, osx⟩ := by
  have f1 := tc_lookup
  have f2 := tc_bind (.ref Cl)
  have ty : (⟨hp, gs, dr, tk, osx⟩ : Shared).TypeIs (.ref Cl) "type" := ⟨_, atC, rfl⟩
  refine codeAny_of_tree ?_
  show wpAny _ _ (callAny (.ref Cl) _) _ _ _
  repeat (any_goals (first | assumption | with_reducible refine wpAny_loadPart_at atC ?_ | wp_step))
  refine ⟨rfl, ?_⟩
  refine codeAny_call_builtin_at (Code.quiet_builtin _ (by decide +kernel)) entry_typeCall (wpAny_check_type_call_sub atC (tcall_K Fb hT atC li lb few ?_))
  refine codeAny_mono fin fun r s' z => ?_
  rcases r with e | (v | _ | _ | _) <;> exact z
end
end VI
set_option Elab.async false
set_option linter.all false
set_option maxRecDepth 100000
set_option maxHeartbeats 4000000
namespace VI
open PySem PySem.Spec PyProof.Rows L2
/-- an own class of error that can be called -/
structure MkC (K : PySem.W.Frag) (C : Addr) : Prop where
  own : ∃ (B newId initId : String) (bmB : List Value) (nm q : Str) (N : Addr) (bs bm : List Value) (sn : List Str) (sub : List Value) (ab : Bool) (col : Option Bool) (dd : Option Addr) (k0 k1 k2 k3 k5 : Option Value),
    ExcBaseFacts B newId initId bmB ∧ (∀ X : String, bm.contains (.type X) = bmB.contains (.type X)) ∧ K.lookup C = some (excClassObj nm q C N bs bm true sn sub ab col dd k0 k1 k2 k3 k5 newId)
  kC : PySem.W.keepIn K (.ref C) = true
theorem mkC_E {K : PySem.W.Frag} {C : Addr} {B newId initId : String} {bmB : List Value} (Z : BaseE B newId initId bmB) (T : OexE K C newId bmB) : MkC K C := by
  obtain ⟨nm, q, N, bs, sn, sub, ab, col, dd, k0, k1, k2, k3, k5, hC⟩ := T.cls
  exact ⟨⟨B, newId, initId, bmB, nm, q, N, bs, bmB, sn, sub, ab, col, dd, k0, k1, k2, k3, k5, Z.F, fun _ => rfl, hC⟩, T.kC⟩
theorem mkC_C {K : PySem.W.Frag} {C : Addr} (T : OexC K C) : MkC K C := by
  obtain ⟨nm, q, N, bs, bm, sn, sub, ab, col, dd, k0, k1, k2, k3, k5, hC, hbm⟩ := T.cls
  exact ⟨⟨_, _, _, _, nm, q, N, bs, bm, sn, sub, ab, col, dd, k0, k1, k2, k3, k5, F.excBase_ValueError, fun Y => PySem.HandSPX.refsVE_contains Y bm hbm, hC⟩, T.kC⟩
/-- what stands when the error is made -/
def SpMk (C : Addr) (sp : Sp) (vs : List V) (H1 : Hp) (Q : VK) : Prop := ∀ a, H1 a = none → sp (.ref a :: vs) (upd H1 a (exo a C none)) (fun v H2 => v = .non ∧ ∃ (d : Addr) (fs : List (Str × V)), d ≠ a ∧ H2 a = some (exo a C (some d)) ∧ H2 d = some (exd d fs) ∧ Q (.ref a) (upd (upd H2 d (.xd fs)) a (exk a C d))) (fun _ _ _ => False)
section
variable {X : Cx} {pins : List (Addr × Obj)} {σ : L2.St} {H H1 : Hp} {s : Shared} {C fI : Addr} {k : Nat} {fd : FuncData} {ps : List Str} {sp : Sp} {Q : VK} {us args : List Value} {kw : List (Str × Value)} {vs : List V}
theorem run_mk (M : MkC X.K C) (iC : PySem.W.findIn X.K (.ref C) "__init__" = some (some (.ref fI))) (tI : PySem.W.typeIn X.K (.ref fI) = some (.type "function"))
    (F1 : FnOk X.prog X.w X.K X.mg X.base CX0 k fI fd ps sp) (hr : Room (k + 1) X.A) (bt : ∀ (s : Shared) (self : Value), X.K.In s.heap → BindsTo s fd ⟨self :: us, kw⟩ (ps.zip (self :: args)))
    (hl : us.length ≤ 1000) (I : L2.Inv X pins σ H s) (rv : Vals vs args) (h : SpMk C sp vs H Q) : wpAny (model X.prog X.w) X.A (call (.ref C) us kw) (EP X pins σ Q) X.xe s := by
  obtain ⟨B, newId, initId, bmB, nm, q, N, bs, bm, sn, sub, ab, col, dd, k0, k1, k2, k3, k5, Fb, hT, hC⟩ := M.own
  obtain ⟨hp, g, dr, tk, os⟩ := s
  have nxt : hp.objs.size ≤ hp.objs.size + 1 := Nat.le_succ _
  have free : H (hp.objs.size + 1) = none := I.hok.fresh nxt
  have kk : ∀ b o, hp.get? b = some o → ((hp.push (PySem.W.kdv_tup us)).push (PySem.HandSPX.excO C hp.objs.size)).get? b = some o := fun b o e => Heap.get?_push_of_some _ (Heap.get?_push_of_some _ e)
  have at1 : ((hp.push (PySem.W.kdv_tup us)).push (PySem.HandSPX.excO C hp.objs.size)).get? (hp.objs.size + 1) = some (PySem.HandSPX.excO C hp.objs.size) := by heap_get
  have I2 : L2.Inv X pins σ (upd H (hp.objs.size + 1) (exo (hp.objs.size + 1) C none)) ⟨(hp.push (PySem.W.kdv_tup us)).push (PySem.HandSPX.excO C hp.objs.size), g, dr, tk, os⟩ :=
    I.laid (t' := tk) (a := hp.objs.size + 1) (o := exo (hp.objs.size + 1) C none) (h' := (hp.push (PySem.W.kdv_tup us)).push (PySem.HandSPX.excO C hp.objs.size)) kk nxt (exo_ok at1)
  have r2 : Vals (V.ref (hp.objs.size + 1) :: vs) (Value.ref (hp.objs.size + 1) :: args) := .cons rfl rv
  have hq := h (hp.objs.size + 1) free
  refine wpAny_call (callE_K Fb hT (I.kIn _ _ hC) (PySem.W.looks_findIn I.kIn iC) (fun self => PySem.W.bind_fn I.kIn self tI) (by rw [sizeLine_eq]; omega)
    (codeAny_mono (F1.run _ X.stack _ _ ⟨Value.ref (hp.objs.size + 1) :: us, kw⟩ (Value.ref (hp.objs.size + 1) :: args) _ _ (fun _ _ _ => False) (hr.make C us kw) (I2.env0.make C us kw) (bt _ _ I2.kIn) r2 hq) fun r s' hq' => ?_))
  match r, hq' with
  | .error er, hq' => exact hq'.elim
  | .ok .next, hq' => exact hq'.elim
  | .ok .brk, hq' => exact hq'.elim
  | .ok .cont, hq' => exact hq'.elim
  | .ok (.ret z), hq' =>
    obtain ⟨v, H2, I3, rz, ev, d, fs, hda, ea, ed, q3⟩ := I2.after hq'
    subst ev
    refine ⟨rz, ?_⟩
    obtain ⟨t1, hoe⟩ := exo_at I3.hok ea
    obtain ⟨mA, hns, rel⟩ := exd_at I3.hok ed
    obtain ⟨od, _, _, hod, _⟩ := id hns
    have I4 := I3.write (t' := s'.toks) (h' := s'.heap) (x := d) (e := d) (o := .xd fs) (by rw [ed]; exact True.intro) (.inl rfl) (fun b u _ e => e) ⟨_, hod⟩ ⟨mA, hns, rel⟩
    have ea2 : (upd H2 d (.xd fs)) (hp.objs.size + 1) = some (exo (hp.objs.size + 1) C (some d)) := by rw [upd_ne (Ne.symm hda)]; exact ea
    have I5 := I4.write (t' := s'.toks) (h' := s'.heap) (x := hp.objs.size + 1) (e := hp.objs.size + 1) (o := exk (hp.objs.size + 1) C d) (by rw [ea2]; exact True.intro) (.inl rfl) (fun b u _ e => e) ⟨_, hoe⟩ (exk_ok hoe ⟨rfl, rfl⟩ rfl)
    exact ⟨V.ref (hp.objs.size + 1), _, I5, rfl, q3⟩
end
section
variable {X : Cx} {e : Expr} {es : List Expr} {kws : List Keyword} {ta : TA} {p pos : Pos} {x : Str} {C fI : Addr} {k : Nat} {fd : FuncData} {ps : List Str} {sp : Sp}
def tMkV (C : Addr) (sp : Sp) (g : List V → List V) (n : Nat) (ta : TA) : TE := fun σ H Q => ta σ H fun vs H1 => vs.length = n ∧ SpMk C sp (g vs) H1 Q
/-- C(e, ..) as a value -/
theorem pe_mkP {n : Nat} (M : MkC X.K C) (iC : PySem.W.findIn X.K (.ref C) "__init__" = some (some (.ref fI))) (tI : PySem.W.typeIn X.K (.ref fI) = some (.type "function"))
    (F1 : FnOk X.prog X.w X.K X.mg X.base CX0 k fI fd ps sp) (hr : Room (k + 1) X.A) (hb : Binds X.K fd ps []) (hn : n ≤ 1000) (hps : ps.length = n + 1) (hg : Gl X x) (hm : X.mg x = some (.ref C)) (ha : PA X (e :: es) ta)
    (hdb : (x == ("__debug__" : Str)) = false) (he : starEach (e :: es) X.env = (false, eval e X.env) :: starEach es X.env) (hpl : (backTo pos (starEach es X.env)).any (·.1) = false) :
    PE X (.Call (.Name x p) (e :: es) [] pos) (tMkV C sp id n ta) := by
  refine ⟨fun pins s σ H Q I h => ?_⟩
  refine wpAny_Call_Name_kw (ld_glob I hg hm ?_ hdb)
  refine PySem.W.callWith_K (h₀ := X.base) I.ok.mod.kin M.kC (thn (ha.run pos pins s σ H _ I h) fun us s1 ⟨vs, H1, I1, r1, hl, q1⟩ => ⟨I1.kIn, ?_⟩) he hpl
  have hul : us.length = n := by rw [← r1.length, hl]
  refine run_mk (us := us) (args := us) M iC tI F1 hr (fun s2 self K2 => ?_) (by omega) I1 r1 q1
  have := hb s2 (self :: us) K2 (by simp [hul, hps])
  simpa using this
/-- C(f = e, ..) as a value -/
theorem pe_mkKw {n : Nat} {ks : List Str} {is : List Nat} (M : MkC X.K C) (iC : PySem.W.findIn X.K (.ref C) "__init__" = some (some (.ref fI))) (tI : PySem.W.typeIn X.K (.ref fI) = some (.type "function"))
    (F1 : FnOk X.prog X.w X.K X.mg X.base CX0 k fI fd ps sp) (hr : Room (k + 1) X.A) (hkb : ∀ (s : Shared) (self : Value) (ws : List Value), ws.length = n → BindsTo s fd ⟨[self], ks.zip ws⟩ (ps.zip (self :: pick is ws))) (hg : Gl X x) (hm : X.mg x = some (.ref C)) (hkw : PK X kws ta)
    (hall : (backToKw pos (keywordEach kws X.env)).all (·.1.isSome) = true := by rfl) (hks : (backToKw pos (keywordEach kws X.env)).filterMap (·.1) = ks := by rfl) (hdb : (x == ("__debug__" : Str)) = false := by decide)
    (hpl : ((backTo pos (starEach [] X.env)).any (·.1) || (backToKw pos (keywordEach kws X.env)).any (·.1.isNone)) = false := by rfl) :
    PE X (.Call (.Name x p) [] kws pos) (tMkV C sp (pick is) n ta) := by
  refine ⟨fun pins s σ H Q I h => ?_⟩
  refine wpAny_Call_Name_kw (ld_glob I hg hm ?_ hdb)
  refine PySem.W.callWith_KW0 (h₀ := X.base) I.ok.mod.kin M.kC hall (thn (hkw.run pos pins s σ H _ I h) fun ws s2 ⟨zs, H2, I2, rz, hl, q2⟩ => ⟨I2.kIn, ?_⟩) hpl
  rw [hks]
  exact run_mk (us := []) (args := pick is ws) M iC tI F1 hr (fun s3 self _ => hkb s3 self ws (by rw [← rz.length, hl])) (by simp) I2 (vals_pick rz is) q2
end
section
variable {K : PySem.W.Frag} {F H : Hp} {e e' : Env} {σ : L2.St}
def eErr1 (n f : Str) (as : Sem1 (List D)) : Ev := fun e => (as e).bind fun ds e1 => match ds with
  | [d] => .ok (.fz (errD ⟨n, [(f, d)]⟩)) e1
  | _ => .no
def eErr2 (n f g : Str) (sw : Bool) (as : Sem1 (List D)) : Ev := fun e => (as e).bind fun ds e1 => match ds with
  | [d1, d2] => .ok (.fz (errD (if sw then ⟨n, [(g, d1), (f, d2)]⟩ else ⟨n, [(g, d2), (f, d1)]⟩))) e1
  | _ => .no
/-- the error is there -/
theorem new_err {w : Wd} {C : Cf} {F1 H1 : Hp} {e1 : Env} {Cc a d : Addr} {x : Xc} {fs : List (Str × V)} {Q : VK} (xk : ExK w.K Cc x.cls) (R1 : Rp w.K C F1 H1 e1 σ) (ha : H1 a = none) (hd : H1 d = none) (hda : d ≠ a) (h3 : fs.map (·.1) = x.fs.map (·.1)) (h4 : DpAll w.K F1 (fs.map (·.2)) (x.fs.map (·.2)))
    (P1 : Post w (RR w.K) C F1 σ Q (.ok (.fz (errD x)) e1)) : Q (.ref a) (upd (upd H1 d (.xd fs)) a (exk a Cc d)) := by
  obtain ⟨R2, hM, hF, ap⟩ := R1.grow (o := .xd fs) hd
  have R3 := R2.more upd_same hF hM ap
  have ha2 : (upd H1 d (.xd fs)) a = none := by rw [upd_ne (Ne.symm hda)]; exact ha
  obtain ⟨R4, hM2, hF2, ap2⟩ := R3.grow (o := exk a Cc d) ha2 (by intro xs z; cases z)
  have R5 := R4.more upd_same hF2 hM2 ap2
  have E1 : Ext F1 (upd F1 d (.xd fs)) := Ext.new hF
  have E2 : Ext (upd F1 d (.xd fs)) (upd (upd F1 d (.xd fs)) a (exk a Cc d)) := Ext.new hF2
  refine P1 _ _ _ R5 (E1.trans E2) ?_
  have dp := errD_dp (F := upd (upd F1 d (.xd fs)) a (exk a Cc d)) xk upd_same (by rw [upd_ne hda, upd_same]) h3 ((h4.ext E1).ext E2)
  exact dp
theorem rd_err1 {w : Wd} {Cc : Addr} {n f : Str} {as : Sem1 (List D)} {Q : VK} {gv : List V → List V} (xk : ExK w.K Cc n) (hgv : ∀ v, gv [v] = [v]) (h : rdR w (eErr1 n f as) σ H Q) : tMkV Cc (spEi Cc f) gv 1 (rdDs w as) σ H Q := by
  obtain ⟨C, F, e, R, P⟩ := h
  refine bindP R P fun F1 H1 e1 ds vs h1 R1 E1 q1 P1 => ?_
  match ds, vs, q1, P1 with
  | [d1], [v1], .cons q1 .nil, P1 =>
    refine ⟨rfl, ?_⟩
    rw [hgv]
    refine fun a ha => ⟨a, v1, rfl, upd_same, fun d hd hda => ⟨rfl, d, [(f, v1)], hda, upd_same, ?_, ?_⟩⟩
    · rw [upd_ne hda, upd_same]
    · have hdn : H1 d = none := by rwa [upd_ne hda] at hd
      have eq : upd (upd (upd (upd (upd H1 a (exo a Cc none)) d (exd d [(f, v1)])) a (exo a Cc (some d))) d (.xd [(f, v1)])) a (exk a Cc d) = upd (upd H1 d (.xd [(f, v1)])) a (exk a Cc d) := by
        funext b
        by_cases hba : b = a
        · rw [hba, upd_same, upd_same]
        · rw [upd_ne hba, upd_ne hba]
          by_cases hbd : b = d
          · rw [hbd, upd_same, upd_same]
          · rw [upd_ne hbd, upd_ne hba, upd_ne hbd, upd_ne hba, upd_ne hbd]
      rw [eq]
      exact new_err (x := ⟨n, [(f, d1)]⟩) xk R1 ha hdn hda rfl (.cons q1 .nil) P1
theorem rd_err2 {w : Wd} {Cc : Addr} {n f g : Str} {sw : Bool} {as : Sem1 (List D)} {Q : VK} {gv : List V → List V} (xk : ExK w.K Cc n) (hgv : ∀ v1 v2, gv [v1, v2] = if sw then [v2, v1] else [v1, v2]) (h : rdR w (eErr2 n f g sw as) σ H Q) : tMkV Cc (spE2 Cc f g) gv 2 (rdDs w as) σ H Q := by
  obtain ⟨C, F, e, R, P⟩ := h
  refine bindP R P fun F1 H1 e1 ds vs h1 R1 E1 q1 P1 => ?_
  match ds, vs, q1, P1 with
  | [d1, d2], [v1, v2], .cons q1 (.cons q2 .nil), P1 =>
    have key : ∀ (x1 x2 : V) (y1 y2 : D), Dp w.K F1 x1 y1 → Dp w.K F1 x2 y2 → Post w (RR w.K) C F1 σ Q (.ok (.fz (errD ⟨n, [(g, y2), (f, y1)]⟩)) e1) → SpMk Cc (spE2 Cc f g) [x1, x2] H1 Q := by
      intro x1 x2 y1 y2 p1 p2 P1 a ha
      refine ⟨a, x1, x2, rfl, upd_same, fun d hd hda => ⟨rfl, d, [(g, x2), (f, x1)], hda, ?_, upd_same, ?_⟩⟩
      · rw [upd_ne (Ne.symm hda), upd_same]
      · have hdn : H1 d = none := by rwa [upd_ne hda] at hd
        have eq : upd (upd (upd (upd (upd (upd H1 a (exo a Cc none)) d (exd d [(f, x1)])) a (exo a Cc (some d))) d (exd d [(g, x2), (f, x1)])) d (.xd [(g, x2), (f, x1)])) a (exk a Cc d) = upd (upd H1 d (.xd [(g, x2), (f, x1)])) a (exk a Cc d) := by
          funext b
          by_cases hba : b = a
          · rw [hba, upd_same, upd_same]
          · rw [upd_ne hba, upd_ne hba]
            by_cases hbd : b = d
            · rw [hbd, upd_same, upd_same]
            · rw [upd_ne hbd, upd_ne hbd, upd_ne hba, upd_ne hbd, upd_ne hba, upd_ne hbd]
        rw [eq]
        exact new_err (x := ⟨n, [(g, y2), (f, y1)]⟩) xk R1 ha hdn hda rfl (.cons p2 (.cons p1 .nil)) P1
    cases sw with
    | true => exact ⟨rfl, by rw [hgv]; exact key v2 v1 d2 d1 q2 q1 P1⟩
    | false => exact ⟨rfl, by rw [hgv]; exact key v1 v2 d1 d2 q1 q2 P1⟩
end
end VI
set_option Elab.async false
set_option linter.all false
set_option maxRecDepth 100000
set_option maxHeartbeats 4000000
namespace VI
open PySem PySem.Spec PyProof.Rows L2
section
variable {X : Cx} {w : Wd} {e : Expr} {es : List Expr} {kws : List Keyword} {as : Sem1 (List D)} {p pos : Pos} {x f g qual : Str} {st : Stmt} {B newId initId : String} {bmB : List Value}
theorem ve_err1 (hw : w.K = X.K) (er : ErrT X.K X.mg x f newId bmB qual st) (Z : BaseE B newId initId bmB)
    (FI : ∀ C fI fd, OexE X.K C newId bmB → PySem.W.findIn X.K (.ref C) f = some none → Fun X.K "__init__" qual st fI fd → FnOk X.prog X.w X.K X.mg X.base CX0 2 fI fd [("self" : Str), f] (spEi C f)) (hfl : f ∈ excFlds) (hr : Room 3 X.A) (hg : Gl X x) (ha : PA X (e :: es) (rdDs w as))
    (hdb : (x == ("__debug__" : Str)) = false := by decide) (he : starEach (e :: es) X.env = (false, eval e X.env) :: starEach es X.env := by rfl) (hpl : (backTo pos (starEach es X.env)).any (·.1) = false := by rfl) :
    PE X (.Call (.Name x p) (e :: es) [] pos) (rdR w (eErr1 x f as)) := by
  obtain ⟨C, fI, fd, hm, T, xk, iC, tI, F, hb⟩ := er.ex
  exact pe_mono (pe_mkP (n := 1) (mkC_E Z T) iC tI (FI C fI fd T (xk.fl f hfl) F) hr hb (by omega) rfl hg hm ha hdb he hpl) fun σ H Q h => rd_err1 (by rw [hw]; exact xk) (fun _ => rfl) h
theorem ve_err2 (hw : w.K = X.K) (er : ErrT2 X.K X.mg x f g qual st)
    (FI : ∀ C fI fd, OexC X.K C → PySem.W.findIn X.K (.ref C) f = some none → PySem.W.findIn X.K (.ref C) g = some none → Fun X.K "__init__" qual st fI fd → FnOk X.prog X.w X.K X.mg X.base CX0 2 fI fd [("self" : Str), f, g] (spE2 C f g)) (hf : f ∈ excFlds) (hg2 : g ∈ excFlds) (hr : Room 3 X.A) (hg : Gl X x) (ha : PA X (e :: es) (rdDs w as))
    (hdb : (x == ("__debug__" : Str)) = false := by decide) (he : starEach (e :: es) X.env = (false, eval e X.env) :: starEach es X.env := by rfl) (hpl : (backTo pos (starEach es X.env)).any (·.1) = false := by rfl) :
    PE X (.Call (.Name x p) (e :: es) [] pos) (rdR w (eErr2 x f g false as)) := by
  obtain ⟨C, fI, fd, hm, T, xk, iC, tI, F, hb⟩ := er.ex
  exact pe_mono (pe_mkP (n := 2) (mkC_C T) iC tI (FI C fI fd T (xk.fl f hf) (xk.fl g hg2) F) hr hb (by omega) rfl hg hm ha hdb he hpl) fun σ H Q h => rd_err2 (by rw [hw]; exact xk) (fun _ _ => rfl) h
/-- how an __init__ takes its arguments by keyword -/
def KwI (qual : Str) (st : Stmt) (ks ps : List Str) (is : List Nat) (n : Nat) : Prop := ∀ (kV doc pm : Value) (an : Option Addr) (cdv ct self : Value) (ws : List Value), ws.length = n → bindArgs (PySem.W.fnOf "__init__" qual (defArgs st) (defBody st) (defScope st) .none kV doc pm an cdv ct) ⟨[self], ks.zip ws⟩ = pure (ps.zip (self :: pick is ws))
theorem KwI.to {K : PySem.W.Frag} {ks ps : List Str} {is : List Nat} {n : Nat} {fI : Addr} {fd : FuncData} (h : KwI qual st ks ps is n) (F : Fun K "__init__" qual st fI fd) (s : Shared) (self : Value) (ws : List Value) (hl : ws.length = n) : BindsTo s fd ⟨[self], ks.zip ws⟩ (ps.zip (self :: pick is ws)) := by
  obtain ⟨oc, od, kV, doc, pm, an, cdv, ct, osl, rfl, lk, hcd⟩ := F.ex
  exact .of_eq (h kV doc pm an cdv ct self ws hl)
theorem ve_err1k (hw : w.K = X.K) (er : ErrT X.K X.mg x f newId bmB qual st) (Z : BaseE B newId initId bmB)
    (FI : ∀ C fI fd, OexE X.K C newId bmB → PySem.W.findIn X.K (.ref C) f = some none → Fun X.K "__init__" qual st fI fd → FnOk X.prog X.w X.K X.mg X.base CX0 2 fI fd [("self" : Str), f] (spEi C f)) (hfl : f ∈ excFlds) (hr : Room 3 X.A) (hg : Gl X x) (hk : KwI qual st [f] [("self" : Str), f] [0] 1) (ha : PK X kws (rdDs w as))
    (hall : (backToKw pos (keywordEach kws X.env)).all (·.1.isSome) = true := by rfl) (hks : (backToKw pos (keywordEach kws X.env)).filterMap (·.1) = [f] := by rfl) (hdb : (x == ("__debug__" : Str)) = false := by decide)
    (hpl : ((backTo pos (starEach [] X.env)).any (·.1) || (backToKw pos (keywordEach kws X.env)).any (·.1.isNone)) = false := by rfl) :
    PE X (.Call (.Name x p) [] kws pos) (rdR w (eErr1 x f as)) := by
  obtain ⟨C, fI, fd, hm, T, xk, iC, tI, F, hb⟩ := er.ex
  exact pe_mono (pe_mkKw (n := 1) (is := [0]) (mkC_E Z T) iC tI (FI C fI fd T (xk.fl f hfl) F) hr (hk.to F) hg hm ha hall hks hdb hpl) fun σ H Q h => rd_err1 (by rw [hw]; exact xk) (fun _ => rfl) h
theorem ve_err2k (hw : w.K = X.K) (er : ErrT2 X.K X.mg x f g qual st)
    (FI : ∀ C fI fd, OexC X.K C → PySem.W.findIn X.K (.ref C) f = some none → PySem.W.findIn X.K (.ref C) g = some none → Fun X.K "__init__" qual st fI fd → FnOk X.prog X.w X.K X.mg X.base CX0 2 fI fd [("self" : Str), f, g] (spE2 C f g)) (hf : f ∈ excFlds) (hg2 : g ∈ excFlds) (hr : Room 3 X.A) (hg : Gl X x) (hk : KwI qual st [g, f] [("self" : Str), f, g] [1, 0] 2) (ha : PK X kws (rdDs w as))
    (hall : (backToKw pos (keywordEach kws X.env)).all (·.1.isSome) = true := by rfl) (hks : (backToKw pos (keywordEach kws X.env)).filterMap (·.1) = [g, f] := by rfl) (hdb : (x == ("__debug__" : Str)) = false := by decide)
    (hpl : ((backTo pos (starEach [] X.env)).any (·.1) || (backToKw pos (keywordEach kws X.env)).any (·.1.isNone)) = false := by rfl) :
    PE X (.Call (.Name x p) [] kws pos) (rdR w (eErr2 x f g true as)) := by
  obtain ⟨C, fI, fd, hm, T, xk, iC, tI, F, hb⟩ := er.ex
  exact pe_mono (pe_mkKw (n := 2) (is := [1, 0]) (mkC_C T) iC tI (FI C fI fd T (xk.fl f hf) (xk.fl g hg2) F) hr (hk.to F) hg hm ha hall hks hdb hpl) fun σ H Q h => rd_err2 (by rw [hw]; exact xk) (fun _ _ => rfl) h
end
section
variable {e : Env} {n f g : Str} {sw : Bool} {as : Sem1 (List D)} {Q : Po Rv}
def kE1 (n f : Str) (Q : Po Rv) : Po (List D) := fun ds e => match ds with
  | [d] => Q (.fz (errD ⟨n, [(f, d)]⟩)) e
  | _ => False
def kE2 (n f g : Str) (sw : Bool) (Q : Po Rv) : Po (List D) := fun ds e => match ds with
  | [d1, d2] => Q (.fz (errD (if sw then ⟨n, [(g, d1), (f, d2)]⟩ else ⟨n, [(g, d2), (f, d1)]⟩))) e
  | _ => False
@[simp] theorem kE1_eq {d : D} : kE1 n f Q [d] e = Q (.fz (errD ⟨n, [(f, d)]⟩)) e := rfl
@[simp] theorem kE2_f {d1 d2 : D} : kE2 n f g false Q [d1, d2] e = Q (.fz (errD ⟨n, [(g, d2), (f, d1)]⟩)) e := rfl
@[simp] theorem kE2_t {d1 d2 : D} : kE2 n f g true Q [d1, d2] e = Q (.fz (errD ⟨n, [(g, d1), (f, d2)]⟩)) e := rfl
@[simp] theorem ok_err1 : Ok (eErr1 n f as e) Q = Ok (as e) (kE1 n f Q) := by
  unfold eErr1
  rw [ok_bind]
  congr 1
  funext ds e1
  rcases ds with _ | ⟨d, _ | ⟨d2, ds⟩⟩ <;> rfl
@[simp] theorem ok_err2 : Ok (eErr2 n f g sw as e) Q = Ok (as e) (kE2 n f g sw Q) := by
  unfold eErr2
  rw [ok_bind]
  congr 1
  funext ds e1
  rcases ds with _ | ⟨d, _ | ⟨d2, _ | ⟨d3, ds⟩⟩⟩ <;> rfl
end
end VI
set_option Elab.async false
set_option linter.all false
set_option maxRecDepth 100000
set_option maxHeartbeats 8000000
namespace G
open PySem PySem.Spec PyProof.Rows L2 VI
def b_law_same_v3 (self_law_same_v3 : List D → Option Ret) : St1 := (block [(ifS (tst (un1 (isD [isLstB, isTupB]) (eV 1))) (block [(ifS (orT (tst (bin2 neD (un1 (isD [isLstB]) (eV 0)) (un1 (isD [isLstB]) (eV 1)))) (tst (bin2 neD (un1 (isD [isTupB]) (eV 0)) (un1 (isD [isTupB]) (eV 1))))) (block [(retS (eC (.bool false)))]) (block [])), (retS (andV (bin2 eqD (eB (on1 lenD) (opds [(eV 0)])) (eB (on1 lenD) (opds [(eV 1)]))) (eB (on1 allD) (opds [(lcS (zipE (eV 0) (eV 1)) (tgT [(tgV 2), (tgV 3)]) yesT (eF self_law_same_v3 (toDs [(eV 2), (eV 3)])) [2, 3])]))))]) (block [])), (ifS (orT (tst (bin2 isND (eV 1) (eC .none))) (tst (un1 (isD [isBoolB, isStrB]) (eV 1)))) (block [(retS (andV (bin2 eqD (eV 0) (eV 1)) (andV (bin2 eqD (un1 (isD [isBoolB]) (eV 0)) (un1 (isD [isBoolB]) (eV 1))) (bin2 eqD (bin2 isND (eV 0) (eC .none)) (bin2 isND (eV 1) (eC .none))))))]) (block [])), (retS (andV (un1 (isD [isIntB]) (eV 0)) (andV (notV (un1 (isD [isBoolB]) (eV 0))) (bin2 eqD (eV 0) (eV 1)))))])
def r_law_same_v3 : Nat → List D → Option Ret
  | 0 => fun _ => none
  | d + 1 => fnF (b_law_same_v3 (r_law_same_v3 d)) 4
def m_law_same_v3 : List D → Option Ret := r_law_same_v3 60
def b_law_kinds : St1 := (block [(asgS 1 (eLst (toDs [(un1 (isD [(isOwn "NoStone")]) (eV 0)), (un1 (isD [(isOwn "NoPlace")]) (eV 0)), (un1 (isD [(isOwn "NoNumber")]) (eV 0)), (un1 (isD [(isOwn "NoDeed")]) (eV 0))]))), (asgS 1 (bin2 addD (eV 1) (eLst (toDs [(un1 (isD [(isOwn "NoCut")]) (eV 0)), (un1 (isD [(isOwn "NoHeap")]) (eV 0)), (un1 (isD [(isOwn "Clash")]) (eV 0))])))), (exprS (eM fmApp 1 (toDs [(un1 (isD [(isOwn "Strange")]) (eV 0))]))), (asgS 1 (bin2 addD (eV 1) (eLst (toDs [(un1 (isD [(isOwn "BadDeed")]) (eV 0)), (un1 (isD [(isOwn "BadText")]) (eV 0)), (un1 (isD [(isOwn "BadLine")]) (eV 0))])))), (asgS 1 (bin2 addD (eV 1) (eLst (toDs [(un1 (isD [(isOwn "Unlike")]) (eV 0)), (un1 (isD [(isOwn "Odd")]) (eV 0)), (un1 (isD [(isOwn "Barred")]) (eV 0))])))), (retS (bin2 addD (eV 1) (eLst (toDs [(un1 (isD [(isOwn "TooMany")]) (eV 0)), (un1 (isD [(isOwn "Full")]) (eV 0))]))))])
def m_law_kinds : List D → Option Ret := fnF b_law_kinds 2
def b_law_bases : St1 := (block [(asgS 1 (eLst (toDs [(un1 (isD [(isErr "LookupError")]) (eV 0)), (un1 (isD [(isErr "ValueError")]) (eV 0))]))), (retS (bin2 addD (eV 1) (eLst (toDs [(un1 (isD [(isErr "RuntimeError")]) (eV 0)), (un1 (isD [(isErr "OverflowError")]) (eV 0))]))))])
def m_law_bases : List D → Option Ret := fnF b_law_bases 2
def b_law_all_right : St1 := (block [(forS (enumE (eV 0)) (tgT [(tgV 2), (tgV 3)]) (block [(ifS (tst (bin2 neD (eF m_law_kinds (toDs [(eV 3)])) (lcS (rng1 (eC (.int 16))) (tgV 4) yesT (bin2 eqD (eV 4) (eV 2)) [4]))) (block [(retS (eC (.bool false)))]) (block [])), (ifS (orT (tst (bin2 notBD (bin2 ixD (eF m_law_bases (toDs [(eV 3)])) (bin2 ixD (eV 1) (eV 2))) (eC (.bool true)))) (tst (un1 (isD [(isErr "KeyError"), (isErr "NotImplementedError")]) (eV 3)))) (block [(retS (eC (.bool false)))]) (block [])), (ifS (tst (bin2 neD (lcS (rng1 (eC (.int 4))) (tgV 4) (andT (tst (bin2 neD (eV 4) (bin2 ixD (eV 1) (eV 2)))) (tst (bin2 ixD (eF m_law_bases (toDs [(eV 3)])) (eV 4)))) (eV 4) [4]) (eLst (toDs [])))) (block [(retS (eC (.bool false)))]) (block []))])), (retS (eC (.bool true)))])
def m_law_all_right : List D → Option Ret := fnF b_law_all_right 5
def b_law_right_v80 : St1 := (block [(parS [5, 6, 7] [(bin2 addD (eC (.str "x")) (eB (on1 strD) (opds [(eV 0)]))), (eTup (toDs [(eV 0), (eC (.int 3))])), (eTup (toDs [(bin2 addD (eV 0) (eC (.int 1))), (eC (.int 4))]))]), (asgS 1 (eLst (toDs [(eErr1 "NoStone" "stone" (toDs [(eV 0)])), (eErr1 "NoPlace" "place" (toDs [(eV 0)])), (eErr1 "NoNumber" "number" (toDs [(eV 0)])), (eErr1 "NoDeed" "many" (toDs [(eV 0)])), (eErr1 "NoCut" "stone" (toDs [(eV 0)])), (eErr1 "NoHeap" "heap" (toDs [(eV 6)]))]))), (asgS 1 (bin2 addD (eV 1) (eLst (toDs [(eErr2 "Clash" "heap" "other" false (toDs [(eV 6), (eV 7)])), (eErr1 "Strange" "index" (toDs [(eV 0)])), (eErr1 "BadDeed" "at" (toDs [(eV 0)])), (eErr1 "BadText" "text" (toDs [(eV 5)])), (eErr1 "BadLine" "at" (toDs [(eV 0)]))])))), (asgS 1 (bin2 addD (eV 1) (eLst (toDs [(eErr1 "Unlike" "place" (toDs [(eV 0)])), (eErr1 "Odd" "place" (toDs [(eV 0)])), (eErr1 "Barred" "stones" (toDs [(eV 0)])), (eErr1 "TooMany" "many" (toDs [(bin2 addD (eV 0) (eC (.int 300)))])), (eErr1 "Full" "many" (toDs [(bin2 addD (eV 0) (eC (.int 16)))]))])))), (asgS 2 (eLst (toDs [(un1 (attrD "stone") (bin2 ixD (eV 1) (eC (.int 0)))), (un1 (attrD "place") (bin2 ixD (eV 1) (eC (.int 1)))), (un1 (attrD "number") (bin2 ixD (eV 1) (eC (.int 2)))), (un1 (attrD "many") (bin2 ixD (eV 1) (eC (.int 3)))), (un1 (attrD "stone") (bin2 ixD (eV 1) (eC (.int 4)))), (un1 (attrD "heap") (bin2 ixD (eV 1) (eC (.int 5)))), (un1 (attrD "heap") (bin2 ixD (eV 1) (eC (.int 6))))]))), (asgS 2 (bin2 addD (eV 2) (eLst (toDs [(un1 (attrD "other") (bin2 ixD (eV 1) (eC (.int 6)))), (un1 (attrD "index") (bin2 ixD (eV 1) (eC (.int 7)))), (un1 (attrD "at") (bin2 ixD (eV 1) (eC (.int 8)))), (un1 (attrD "text") (bin2 ixD (eV 1) (eC (.int 9)))), (un1 (attrD "at") (bin2 ixD (eV 1) (eC (.int 10)))), (un1 (attrD "place") (bin2 ixD (eV 1) (eC (.int 11))))])))), (asgS 2 (bin2 addD (eV 2) (eLst (toDs [(un1 (attrD "place") (bin2 ixD (eV 1) (eC (.int 12)))), (un1 (attrD "stones") (bin2 ixD (eV 1) (eC (.int 13)))), (un1 (attrD "many") (bin2 ixD (eV 1) (eC (.int 14)))), (un1 (attrD "many") (bin2 ixD (eV 1) (eC (.int 15))))])))), (asgS 3 (bin2 addD (bin2 addD (bin2 addD (bin2 mulD (eLst (toDs [(eV 0)])) (eC (.int 5))) (eLst (toDs [(eV 6), (eV 6), (eV 7), (eV 0), (eV 0), (eV 5)]))) (bin2 mulD (eLst (toDs [(eV 0)])) (eC (.int 4)))) (eLst (toDs [(bin2 addD (eV 0) (eC (.int 300))), (bin2 addD (eV 0) (eC (.int 16)))])))), (ifS (orT (notT (tst (eF m_law_same_v3 (toDs [(eV 2), (eV 3)])))) (notT (tst (eF m_law_all_right (toDs [(eV 1), (eLst (toDs [(eC (.int 0)), (eC (.int 0)), (eC (.int 0)), (eC (.int 0)), (eC (.int 1)), (eC (.int 1)), (eC (.int 1)), (eC (.int 1)), (eC (.int 1)), (eC (.int 1)), (eC (.int 1)), (eC (.int 2)), (eC (.int 2)), (eC (.int 2)), (eC (.int 3)), (eC (.int 3))]))]))))) (block [(retS (eC (.bool false)))]) (block [])), (asgS 2 (eLst (toDs [(un1 (attrD "stone") (eErr1 "NoStone" "stone" (toDs [(eV 0)]))), (un1 (attrD "place") (eErr1 "NoPlace" "place" (toDs [(eV 0)]))), (un1 (attrD "number") (eErr1 "NoNumber" "number" (toDs [(eV 0)]))), (un1 (attrD "many") (eErr1 "NoDeed" "many" (toDs [(eV 0)])))]))), (asgS 4 (eErr2 "Clash" "heap" "other" true (toDs [(eV 7), (eV 6)]))), (asgS 2 (bin2 addD (eV 2) (eLst (toDs [(un1 (attrD "stone") (eErr1 "NoCut" "stone" (toDs [(eV 0)]))), (un1 (attrD "heap") (eErr1 "NoHeap" "heap" (toDs [(eV 6)]))), (un1 (attrD "heap") (eV 4)), (un1 (attrD "other") (eV 4))])))), (asgS 2 (bin2 addD (eV 2) (eLst (toDs [(un1 (attrD "index") (eErr1 "Strange" "index" (toDs [(eV 0)]))), (un1 (attrD "at") (eErr1 "BadDeed" "at" (toDs [(eV 0)]))), (un1 (attrD "text") (eErr1 "BadText" "text" (toDs [(eV 5)]))), (un1 (attrD "at") (eErr1 "BadLine" "at" (toDs [(eV 0)])))])))), (asgS 2 (bin2 addD (eV 2) (eLst (toDs [(un1 (attrD "place") (eErr1 "Unlike" "place" (toDs [(eV 0)]))), (un1 (attrD "place") (eErr1 "Odd" "place" (toDs [(eV 0)]))), (un1 (attrD "stones") (eErr1 "Barred" "stones" (toDs [(eV 0)])))])))), (asgS 2 (bin2 addD (eV 2) (eLst (toDs [(un1 (attrD "many") (eErr1 "TooMany" "many" (toDs [(bin2 addD (eV 0) (eC (.int 300)))]))), (un1 (attrD "many") (eErr1 "Full" "many" (toDs [(bin2 addD (eV 0) (eC (.int 16)))])))])))), (retS (eF m_law_same_v3 (toDs [(eV 2), (eV 3)])))])
def m_law_right_v80 : List D → Option Ret := fnF b_law_right_v80 8
def b_law_v81 : St1 := (block [(asgS 1 (bin2 addD (lcS (srcE (slE (eV 0) none (some (eC (.int 8))))) (tgV 2) yesT (bin2 addD (bin2 modD (eB (on1 absD) (opds [(eV 2)])) (eC (.int 39))) (eC (.int 1))) [2]) (eLst (toDs [(eC (.int 1))])))), (retS (eB (on1 allD) (opds [(lcS (srcE (eV 1)) (tgV 2) yesT (eF m_law_right_v80 (toDs [(eV 2)])) [2])])))])
def m_law_v81 : List D → Option Ret := fnF b_law_v81 3
end G
set_option Elab.async false
set_option linter.all false
set_option maxRecDepth 100000
set_option maxHeartbeats 8000000
namespace G
open PySem PySem.Spec PyProof.Rows L2 VI
end G
set_option Elab.async false
set_option linter.all false
set_option maxRecDepth 100000
set_option maxHeartbeats 4000000
namespace VI
open PySem PySem.Spec PyProof.Rows L2
variable {e : Env}
/-- a comprehension over the data of a plain list -/
theorem lcN_ok {α : Type} {t : Tg} {elt : Ev} {own : List Nat} {Q : Po Rv} {z : Src} (l : List α) (f g : α → D) (hz : z.items = l.map f) (hl : l.length ≤ 1000000) (hi : ∀ i ∈ t.ix, i ∈ own)
    (hs : ∀ a ∈ l, ∃ e1, t.run (f a) (wipeE e own) = some e1 ∧ Ok (elt e1) (kFrz fun y e2 => y = g a ∧ wipeE e2 own = wipeE e own))
    (hq : Q (.fresh (l.map g)) (unlend z.lend (backE e own (wipeE e own)))) : kLc t yesT elt own Q z e := by
  refine lcG_ok (fun i ys e2 => ys = (l.take i).map g ∧ e2 = wipeE e own) (by rw [hz, List.length_map, sizeLine_eq]; omega) hi ⟨by simp, rfl⟩ ?_ ?_
  · rintro i d ys e2 hd ⟨rfl, rfl⟩
    rw [hz, List.getElem?_map] at hd
    cases ha : l[i]? with
    | none => rw [ha] at hd; cases hd
    | some a =>
      rw [ha] at hd
      obtain rfl := Option.some.inj hd
      obtain ⟨e1, h1, h2⟩ := hs a (List.mem_of_getElem? ha)
      refine ⟨e1, h1, ?_⟩
      rw [ok_yes']
      rw [← ok_toD] at h2 ⊢
      refine Ok.mono h2 ?_
      rintro y e3 ⟨rfl, h4⟩
      refine ⟨?_, h4⟩
      rw [List.take_succ, ha]; simp
  · rintro ys e2 ⟨rfl, rfl⟩
    rw [hz, List.length_map, List.take_length]
    exact hq
end VI
set_option Elab.async false
set_option linter.all false
set_option maxRecDepth 100000
set_option maxHeartbeats 4000000
namespace G
open PySem PySem.Spec PyProof.Rows L2 VI Builtin.Int
/-- a source of draws; at most n were made -/
def Bx (n : Nat) (b : List D) : Prop := ∃ a s c : Int, b = [.int a, .int s, .int c] ∧ 0 ≤ a ∧ 0 ≤ s ∧ s ≤ 2 ^ 62 ∧ 0 ≤ c ∧ c ≤ n
theorem Bx.mono {n m : Nat} {b : List D} (h : Bx n b) (k : n ≤ m) : Bx m b := by
  obtain ⟨a, s, c, h1, h2, h3, h4, h5, h6⟩ := h
  exact ⟨a, s, c, h1, h2, h3, h4, h5, by omega⟩
/-- a draw: within its span -/
def Drawn (n : Nat) (span : Int) (r : Rv) (b : List D) : Prop := ∃ v : Int, r = .fz (.int v) ∧ 0 ≤ v ∧ v < span ∧ Bx n b
end G
set_option Elab.async false
set_option linter.all false
set_option maxRecDepth 100000
set_option maxHeartbeats 4000000
namespace G
open PySem PySem.Spec PyProof.Rows L2 VI Builtin.Int
theorem zip_same3 {α : Type} : ∀ l : List α, l.zip l = l.map fun x => (x, x)
  | [] => rfl
  | x :: l => by rw [List.zip_cons_cons, zip_same3 l]; rfl
theorem zipD_self_mem3 {ds : List D} {x : D} (h : x ∈ zipD ds ds) : ∃ y ∈ ds, x = .tuple [y, y] := by
  unfold zipD at h
  obtain ⟨p, hp, rfl⟩ := List.mem_map.mp h
  rw [zip_same3] at hp
  obtain ⟨y, hy, rfl⟩ := List.mem_map.mp hp
  exact ⟨y, hy, rfl⟩
theorem all_true3 (ds : List D) : allD (.list (ds.map fun _ => PyData.bool true)) = some (.fz (.bool true)) := by
  have h := allD_map (bs := ds.map fun _ => true)
  rw [List.map_map] at h
  rw [show (fun (_ : D) => PyData.bool true) = PyData.bool ∘ (fun _ => true) from rfl, h]
  congr 3
  rw [List.all_map, List.all_eq_true]
  intro x _; rfl
theorem same_refl3 : ∀ (k : Nat) {d : D} {B W N : Nat}, Sz B W N d → N < k → W ≤ 16000000 → r_law_same_v3 k [d, d] = some (.ok (.fz (.bool true))) := by
  intro k
  induction k with
  | zero => intro d B W N h hN; omega
  | succ k ih =>
    intro d B W N h hN hW
    have sub : ∀ {ds : List D}, SzAll B W (N - 1) ds → 0 < N → ∀ y ∈ ds, r_law_same_v3 k [y, y] = some (.ok (.fz (.bool true))) := by
      intro ds ha h0 y hy
      obtain ⟨i, hi, rfl⟩ := List.getElem_of_mem hy
      have h1 := ha.at (List.getElem?_eq_getElem hi)
      exact ih h1.1 (by omega) (by omega)
    have lc : ∀ {ds : List D} (x : D), SzAll B W (N - 1) ds → 0 < N → ∀ Q : Po Rv, Q (.fresh ((zipD ds ds).map fun _ => .bool true)) [some (.fz x), some (.fz x), none, none] → kLc (tgT [(tgV 2), (tgV 3)]) yesT (eF (r_law_same_v3 k) (toDs [(eV 2), (eV 3)])) [2, 3] Q ⟨zipD ds ds, []⟩ [some (.fz x), some (.fz x), none, none] := by
      intro ds x ha h0 Q hq
      have hl : ds.length ≤ W := Nat.le_trans (len_le_weight ds) ha.wt
      refine lcM_ok (fun _ => .bool true) (by rw [zipD_len]; simp; omega) (by simp [tgT, tgV]) ?_ ?_
      · intro y hy
        obtain ⟨z, hz, rfl⟩ := zipD_self_mem3 hy
        have hs := sub ha h0 z hz
        simp -implicitDefEqProofs [hs]
      · simpa using hq
    show fnF (b_law_same_v3 (r_law_same_v3 k)) 4 [d, d] = _
    refine fnF_is ?_
    cases d with
    | none => simp -implicitDefEqProofs [b_law_same_v3, isLstB, isTupB, isStrB, isBoolB, isIntB, isNone, show eqD .none .none = some (.fz (.bool true)) from rfl]
    | bool z => simp -implicitDefEqProofs [b_law_same_v3, isLstB, isTupB, isStrB, isBoolB, isIntB, isNone]
    | int z => simp -implicitDefEqProofs [b_law_same_v3, isLstB, isTupB, isStrB, isBoolB, isIntB, isNone]
    | str z => simp -implicitDefEqProofs [b_law_same_v3, isLstB, isTupB, isStrB, isBoolB, isIntB, isNone]
    | dict z => have := h.good; simp [VI.good] at this
    | list ds =>
      obtain ⟨ha, h0⟩ := h.of_list
      simp -implicitDefEqProofs [b_law_same_v3, isLstB, isTupB]
      exact lc _ ha h0 _ (by simp -implicitDefEqProofs [all_true3])
    | tuple ds =>
      obtain ⟨ha, h0⟩ := h.of_tuple
      simp -implicitDefEqProofs [b_law_same_v3, isLstB, isTupB]
      exact lc _ ha h0 _ (by simp -implicitDefEqProofs [all_true3])
theorem law_same3_refl {d : D} {B W N : Nat} (h : Sz B W N d) (hN : N < 60) (hW : W ≤ 16000000) : m_law_same_v3 [d, d] = some (.ok (.fz (.bool true))) := same_refl3 60 h hN hW
end G
set_option Elab.async false
set_option linter.all false
set_option maxRecDepth 100000
set_option maxHeartbeats 4000000
namespace VI
open PySem PySem.Spec PyProof.Rows L2
def kCut (J : Env → Prop) (Q : Po Fl) : Po Fl := fun w e => match w with
  | .nx => J e
  | .ret r => Q (.ret r) e
  | .bk => Q .bk e
  | .ct => Q .ct e
@[simp] theorem kCut_nx {J : Env → Prop} {Q : Po Fl} {e : Env} : kCut J Q .nx e = J e := rfl
@[simp] theorem kCut_ret {J : Env → Prop} {Q : Po Fl} {e : Env} {r : Rv} : kCut J Q (.ret r) e = Q (.ret r) e := rfl
@[simp] theorem kCut_bk {J : Env → Prop} {Q : Po Fl} {e : Env} : kCut J Q .bk e = Q .bk e := rfl
@[simp] theorem kCut_ct {J : Env → Prop} {Q : Po Fl} {e : Env} : kCut J Q .ct e = Q .ct e := rfl
theorem block_app {l2 : List St1} {Q : Po Fl} : ∀ {l1 : List St1} {e : Env}, Ok (block l1 e) (kSeq (block l2) Q) → Ok (block (l1 ++ l2) e) Q
  | [], e, h => by simpa using h
  | [p], e, h => by
    cases l2 with
    | nil =>
      simp only [List.append_nil, ok_blk1] at *
      refine h.mono fun w e' q => ?_
      cases w <;> simpa using q
    | cons q l2 => simpa using h
  | p :: q :: l1, e, h => by
    show Ok (block (p :: q :: (l1 ++ l2)) e) Q
    rw [ok_blk] at *
    refine h.mono fun w e' k => ?_
    cases w with
    | nx => simpa using block_app (l1 := q :: l1) (by simpa using k)
    | bk => simpa using k
    | ct => simpa using k
    | ret r => simpa using k
theorem block_cut (k : Nat) (J : Env → Prop) {l : List St1} {e : Env} {Q : Po Fl} (h1 : Ok (block (l.take k) e) (kCut J Q)) (h2 : ∀ e', J e' → Ok (block (l.drop k) e') Q) : Ok (block l e) Q := by
  rw [← List.take_append_drop k l]
  refine block_app (h1.mono fun w e' q => ?_)
  cases w with
  | nx => simpa using h2 e' q
  | bk => simpa using q
  | ct => simpa using q
  | ret r => simpa using q
end VI
set_option Elab.async false
set_option linter.all false
set_option maxRecDepth 100000
set_option maxHeartbeats 4000000
namespace VI
open PySem PySem.Spec PyProof.Rows L2
theorem block_cutB (k : Nat) (J : Env → Prop) {l : List St1} {body : St1} (hB : block l = body) {e : Env} {Q : Po Fl} (h1 : ∀ b1, block (l.take k) = b1 → Ok (b1 e) (kCut J Q)) (h2 : ∀ b2, block (l.drop k) = b2 → ∀ e', J e' → Ok (b2 e') Q) : Ok (body e) Q := by
  subst hB
  exact block_cut k J (h1 _ rfl) (h2 _ rfl)
end VI
set_option Elab.async false
set_option linter.all false
set_option maxRecDepth 100000
set_option maxHeartbeats 4000000
namespace G
open PySem PySem.Spec PyProof.Rows L2 VI Builtin.Int
def er1 (n f : Str) (d : D) : D := errD ⟨n, [(f, d)]⟩
def errs91 (c c1 c2 p q s : D) : List D := [er1 "NoStone" "stone" c, er1 "NoPlace" "place" c, er1 "NoNumber" "number" c, er1 "NoDeed" "many" c, er1 "NoCut" "stone" c, er1 "NoHeap" "heap" p,
  errD ⟨"Clash", [("other", q), ("heap", p)]⟩, er1 "Strange" "index" c, er1 "BadDeed" "at" c, er1 "BadText" "text" s, er1 "BadLine" "at" c,
  er1 "Unlike" "place" c, er1 "Odd" "place" c, er1 "Barred" "stones" c, er1 "TooMany" "many" c1, er1 "Full" "many" c2]
def base91 : List D := [.int 0, .int 0, .int 0, .int 0, .int 1, .int 1, .int 1, .int 1, .int 1, .int 1, .int 1, .int 2, .int 2, .int 2, .int 3, .int 3]
theorem all_right91 (c c1 c2 p q s : D) : m_law_all_right [.list (errs91 c c1 c2 p q s), .list base91] = some (.ok (.fz (.bool true))) := by kernel_rfl
/-- the text of an error -/
structure Msg91 (c : Int) (t u : Str) : Prop where
  s : strD (.int c) = some (.fz (.str t))
  a : addD (.str "x") (.str t) = some (.fz (.str u))
  z : Sz 100 300 4 (.str u)
def chkM (n : Nat) : Bool := match strD (.int ((n : Int) + 1)) with
  | some (.fz (.str t)) => match addD (.str "x") (.str t) with
    | some (.fz (.str u)) => VI.good 100 (.str u) && decide ((PyData.str u).weight ≤ 300) && decide ((PyData.str u).depth ≤ 4)
    | _ => false
  | _ => false
theorem allM : (List.range 39).all chkM = true := by decide +kernel
theorem msg91 {n : Nat} (h : n < 39) : ∃ t u, Msg91 ((n : Int) + 1) t u := by
  have h1 := List.all_eq_true.mp allM n (List.mem_range.mpr h)
  unfold chkM at h1
  split at h1
  · rename_i t e1
    split at h1
    · rename_i u e2
      rw [Bool.and_eq_true, Bool.and_eq_true] at h1
      exact ⟨t, u, e1, e2, h1.1.1, of_decide_eq_true h1.1.2, of_decide_eq_true h1.2⟩
    · cases h1
  · cases h1
abbrev due91 (c c1 c2 p q s : D) : List D := [c, c, c, c, c, p, p, q, c, c, s, c, c, c, c, c1, c2]
theorem sz91 {n : Nat} (hn : n < 39) {t u : Str} (h : Msg91 ((n : Int) + 1) t u) : m_law_same_v3 [.list (due91 (.int ((n : Int) + 1)) (.int ((n : Int) + 1 + 300)) (.int ((n : Int) + 1 + 16)) (.tuple [.int ((n : Int) + 1), .int 3]) (.tuple [.int ((n : Int) + 1 + 1), .int 4]) (.str u)), .list (due91 (.int ((n : Int) + 1)) (.int ((n : Int) + 1 + 300)) (.int ((n : Int) + 1 + 16)) (.tuple [.int ((n : Int) + 1), .int 3]) (.tuple [.int ((n : Int) + 1 + 1), .int 4]) (.str u))] = some (.ok (.fz (.bool true))) := by
  have h100 : (1000 : Nat) < 2 ^ 100 := by decide
  have hi : ∀ (k : Int), 0 ≤ k → k ≤ 1000 → Sz 100 300 4 (.int k) := fun k h0 h1 => (Sz.int (N := 4) (B := 100) (i := k) (Nat.lt_of_le_of_lt (show k.natAbs ≤ 1000 by omega) h100)).mono (Nat.le_refl _) (show 100 ≤ 300 by omega) (Nat.le_refl _)
  have c := hi ((n : Int) + 1) (by omega) (by omega)
  have c1 := hi ((n : Int) + 1 + 300) (by omega) (by omega)
  have c2 := hi ((n : Int) + 1 + 16) (by omega) (by omega)
  have hp : ∀ (k l : Int), 0 ≤ k → k ≤ 1000 → 0 ≤ l → l ≤ 1000 → Sz 100 1000 5 (.tuple [.int k, .int l]) := fun k l a b c d => (Sz.tuple (SzAll.cons (hi k a b) (SzAll.cons (hi l c d) .nil (W' := 0)))).mono (Nat.le_refl _) (by omega) (Nat.le_refl _)
  have p := hp ((n : Int) + 1) 3 (by omega) (by omega) (by omega) (by omega)
  have q := hp ((n : Int) + 1 + 1) 4 (by omega) (by omega) (by omega) (by omega)
  have up : ∀ {d : D}, Sz 100 300 4 d → Sz 100 1000 5 d := fun h => h.mono (Nat.le_refl _) (by omega) (by omega)
  have c := up c
  have c1 := up c1
  have c2 := up c2
  have s := up h.z
  have key : ∀ l : List D, (∀ d ∈ l, Sz 100 1000 5 d) → SzAll 100 (1001 * l.length) 5 l := by
    intro l hl
    induction l with
    | nil => exact SzAll.nil.mono (Nat.le_refl _) (Nat.zero_le _) (Nat.le_refl _)
    | cons d l ih =>
      have h1 := SzAll.cons (hl d List.mem_cons_self) (ih fun x hx => hl x (List.mem_cons_of_mem _ hx))
      exact h1.mono (Nat.le_refl _) (by rw [List.length_cons]; omega) (Nat.le_refl _)
  exact law_same3_refl (Sz.list (key _ (fun d hd => by
    simp only [due91, List.mem_cons, List.not_mem_nil, or_false] at hd
    rcases hd with rfl | rfl | rfl | rfl | rfl | rfl | rfl | rfl | rfl | rfl | rfl | rfl | rfl | rfl | rfl | rfl | rfl <;> first | exact c | exact p | exact q | exact s | exact c1 | exact c2))) (by omega) (by simp [due91])
abbrev E91 (c : Int) (u : Str) : List D := errs91 (.int c) (.int (c + 300)) (.int (c + 16)) (.tuple [.int c, .int 3]) (.tuple [.int (c + 1), .int 4]) (.str u)
abbrev W91 (c : Int) (u : Str) : List D := due91 (.int c) (.int (c + 300)) (.int (c + 16)) (.tuple [.int c, .int 3]) (.tuple [.int (c + 1), .int 4]) (.str u)
theorem pA91 {c : Int} {t u : Str} (hM : Msg91 c t u) {Q : Po Fl} {bd : St1} (hBd : block [(parS [5, 6, 7] [(bin2 addD (eC (.str "x")) (eB (on1 strD) (opds [(eV 0)]))), (eTup (toDs [(eV 0), (eC (.int 3))])), (eTup (toDs [(bin2 addD (eV 0) (eC (.int 1))), (eC (.int 4))]))]), (asgS 1 (eLst (toDs [(eErr1 "NoStone" "stone" (toDs [(eV 0)])), (eErr1 "NoPlace" "place" (toDs [(eV 0)])), (eErr1 "NoNumber" "number" (toDs [(eV 0)])), (eErr1 "NoDeed" "many" (toDs [(eV 0)])), (eErr1 "NoCut" "stone" (toDs [(eV 0)])), (eErr1 "NoHeap" "heap" (toDs [(eV 6)]))]))), (asgS 1 (bin2 addD (eV 1) (eLst (toDs [(eErr2 "Clash" "heap" "other" false (toDs [(eV 6), (eV 7)])), (eErr1 "Strange" "index" (toDs [(eV 0)])), (eErr1 "BadDeed" "at" (toDs [(eV 0)])), (eErr1 "BadText" "text" (toDs [(eV 5)])), (eErr1 "BadLine" "at" (toDs [(eV 0)]))])))), (asgS 1 (bin2 addD (eV 1) (eLst (toDs [(eErr1 "Unlike" "place" (toDs [(eV 0)])), (eErr1 "Odd" "place" (toDs [(eV 0)])), (eErr1 "Barred" "stones" (toDs [(eV 0)])), (eErr1 "TooMany" "many" (toDs [(bin2 addD (eV 0) (eC (.int 300)))])), (eErr1 "Full" "many" (toDs [(bin2 addD (eV 0) (eC (.int 16)))]))]))))] = bd)
    (hQ : Q .nx [some (.fz (.int c)), some (.own (E91 c u)), none, none, none, some (.fz (.str u)), some (.fz (.tuple [.int c, .int 3])), some (.fz (.tuple [.int (c + 1), .int 4]))]) :
    Ok (bd [some (.fz (.int c)), none, none, none, none, none, none, none]) Q := by
  have hs := hM.s
  have ha := hM.a
  unfold E91 errs91 er1 at hQ
  clear hM
  subst hBd
  simp -implicitDefEqProofs [hs, ha]
  exact hQ
theorem pB91 {c : Int} {u : Str} {w2 : Option Sv} (f2 : Fr w2) {w5 w6 w7 : Option Sv} {Q : Po Fl} {bd : St1} (hBd : block [(asgS 2 (eLst (toDs [(un1 (attrD "stone") (bin2 ixD (eV 1) (eC (.int 0)))), (un1 (attrD "place") (bin2 ixD (eV 1) (eC (.int 1)))), (un1 (attrD "number") (bin2 ixD (eV 1) (eC (.int 2)))), (un1 (attrD "many") (bin2 ixD (eV 1) (eC (.int 3)))), (un1 (attrD "stone") (bin2 ixD (eV 1) (eC (.int 4)))), (un1 (attrD "heap") (bin2 ixD (eV 1) (eC (.int 5)))), (un1 (attrD "heap") (bin2 ixD (eV 1) (eC (.int 6))))]))), (asgS 2 (bin2 addD (eV 2) (eLst (toDs [(un1 (attrD "other") (bin2 ixD (eV 1) (eC (.int 6)))), (un1 (attrD "index") (bin2 ixD (eV 1) (eC (.int 7)))), (un1 (attrD "at") (bin2 ixD (eV 1) (eC (.int 8)))), (un1 (attrD "text") (bin2 ixD (eV 1) (eC (.int 9)))), (un1 (attrD "at") (bin2 ixD (eV 1) (eC (.int 10)))), (un1 (attrD "place") (bin2 ixD (eV 1) (eC (.int 11))))])))), (asgS 2 (bin2 addD (eV 2) (eLst (toDs [(un1 (attrD "place") (bin2 ixD (eV 1) (eC (.int 12)))), (un1 (attrD "stones") (bin2 ixD (eV 1) (eC (.int 13)))), (un1 (attrD "many") (bin2 ixD (eV 1) (eC (.int 14)))), (un1 (attrD "many") (bin2 ixD (eV 1) (eC (.int 15))))]))))] = bd)
    (hQ : ∀ w1, (w1 = some (.own (E91 c u)) ∨ w1 = some (.fz (.list (E91 c u)))) → Q .nx [some (.fz (.int c)), w1, some (.own (W91 c u)), none, none, w5, w6, w7]) :
    Ok (bd [some (.fz (.int c)), some (.own (E91 c u)), w2, none, none, w5, w6, w7]) Q := by
  have a0 : atI (E91 c u) 0 = some (er1 "NoStone" "stone" (.int c)) := rfl
  have b0 : attrD "stone" (er1 "NoStone" "stone" (.int c)) = some (.fz (.int c)) := attr_err
  have a1 : atI (E91 c u) 1 = some (er1 "NoPlace" "place" (.int c)) := rfl
  have b1 : attrD "place" (er1 "NoPlace" "place" (.int c)) = some (.fz (.int c)) := attr_err
  have a2 : atI (E91 c u) 2 = some (er1 "NoNumber" "number" (.int c)) := rfl
  have b2 : attrD "number" (er1 "NoNumber" "number" (.int c)) = some (.fz (.int c)) := attr_err
  have a3 : atI (E91 c u) 3 = some (er1 "NoDeed" "many" (.int c)) := rfl
  have b3 : attrD "many" (er1 "NoDeed" "many" (.int c)) = some (.fz (.int c)) := attr_err
  have a4 : atI (E91 c u) 4 = some (er1 "NoCut" "stone" (.int c)) := rfl
  have b4 : attrD "stone" (er1 "NoCut" "stone" (.int c)) = some (.fz (.int c)) := attr_err
  have a5 : atI (E91 c u) 5 = some (er1 "NoHeap" "heap" (.tuple [.int c, .int 3])) := rfl
  have b5 : attrD "heap" (er1 "NoHeap" "heap" (.tuple [.int c, .int 3])) = some (.fz (.tuple [.int c, .int 3])) := attr_err
  have a6 : atI (E91 c u) 6 = some (errD ⟨"Clash", [("other", .tuple [.int (c + 1), .int 4]), ("heap", .tuple [.int c, .int 3])]⟩) := rfl
  have a7 : atI (E91 c u) 7 = some (er1 "Strange" "index" (.int c)) := rfl
  have b7 : attrD "index" (er1 "Strange" "index" (.int c)) = some (.fz (.int c)) := attr_err
  have a8 : atI (E91 c u) 8 = some (er1 "BadDeed" "at" (.int c)) := rfl
  have b8 : attrD "at" (er1 "BadDeed" "at" (.int c)) = some (.fz (.int c)) := attr_err
  have a9 : atI (E91 c u) 9 = some (er1 "BadText" "text" (.str u)) := rfl
  have b9 : attrD "text" (er1 "BadText" "text" (.str u)) = some (.fz (.str u)) := attr_err
  have a10 : atI (E91 c u) 10 = some (er1 "BadLine" "at" (.int c)) := rfl
  have b10 : attrD "at" (er1 "BadLine" "at" (.int c)) = some (.fz (.int c)) := attr_err
  have a11 : atI (E91 c u) 11 = some (er1 "Unlike" "place" (.int c)) := rfl
  have b11 : attrD "place" (er1 "Unlike" "place" (.int c)) = some (.fz (.int c)) := attr_err
  have a12 : atI (E91 c u) 12 = some (er1 "Odd" "place" (.int c)) := rfl
  have b12 : attrD "place" (er1 "Odd" "place" (.int c)) = some (.fz (.int c)) := attr_err
  have a13 : atI (E91 c u) 13 = some (er1 "Barred" "stones" (.int c)) := rfl
  have b13 : attrD "stones" (er1 "Barred" "stones" (.int c)) = some (.fz (.int c)) := attr_err
  have a14 : atI (E91 c u) 14 = some (er1 "TooMany" "many" (.int (c + 300))) := rfl
  have b14 : attrD "many" (er1 "TooMany" "many" (.int (c + 300))) = some (.fz (.int (c + 300))) := attr_err
  have a15 : atI (E91 c u) 15 = some (er1 "Full" "many" (.int (c + 16))) := rfl
  have b15 : attrD "many" (er1 "Full" "many" (.int (c + 16))) = some (.fz (.int (c + 16))) := attr_err
  have b6a : attrD "heap" (errD ⟨"Clash", [("other", .tuple [.int (c + 1), .int 4]), ("heap", .tuple [.int c, .int 3])]⟩) = some (.fz (.tuple [.int c, .int 3])) := attr_err2a (by decide +kernel)
  have b6b : attrD "other" (errD ⟨"Clash", [("other", .tuple [.int (c + 1), .int 4]), ("heap", .tuple [.int c, .int 3])]⟩) = some (.fz (.tuple [.int (c + 1), .int 4])) := attr_err2b
  unfold W91 due91 at hQ
  subst hBd
  generalize er1 "NoStone" "stone" (.int c) = x0 at *
  generalize er1 "NoPlace" "place" (.int c) = x1 at *
  generalize er1 "NoNumber" "number" (.int c) = x2 at *
  generalize er1 "NoDeed" "many" (.int c) = x3 at *
  generalize er1 "NoCut" "stone" (.int c) = x4 at *
  generalize er1 "NoHeap" "heap" (.tuple [.int c, .int 3]) = x5 at *
  generalize errD ⟨"Clash", [("other", .tuple [.int (c + 1), .int 4]), ("heap", .tuple [.int c, .int 3])]⟩ = x6 at *
  generalize er1 "Strange" "index" (.int c) = x7 at *
  generalize er1 "BadDeed" "at" (.int c) = x8 at *
  generalize er1 "BadText" "text" (.str u) = x9 at *
  generalize er1 "BadLine" "at" (.int c) = x10 at *
  generalize er1 "Unlike" "place" (.int c) = x11 at *
  generalize er1 "Odd" "place" (.int c) = x12 at *
  generalize er1 "Barred" "stones" (.int c) = x13 at *
  generalize er1 "TooMany" "many" (.int (c + 300)) = x14 at *
  generalize er1 "Full" "many" (.int (c + 16)) = x15 at *
  generalize E91 c u = L at *
  simp -implicitDefEqProofs [a0, b0, a1, b1, a2, b2, a3, b3, a4, b4, a5, b5, a6, a7, b7, a8, b8, a9, b9, a10, b10, a11, b11, a12, b12, a13, b13, a14, b14, a15, b15, b6a, b6b, okP_fr f2]
  first | exact hQ _ (.inr rfl) | exact hQ _ (.inl rfl)
theorem pC91 {c : Int} {u : Str} (hsame : m_law_same_v3 [.list (W91 c u), .list (W91 c u)] = some (.ok (.fz (.bool true)))) {w1 : Option Sv} (h1 : w1 = some (.own (E91 c u)) ∨ w1 = some (.fz (.list (E91 c u)))) {Q : Po Fl} {bd : St1} (hBd : block [(asgS 3 (bin2 addD (bin2 addD (bin2 addD (bin2 mulD (eLst (toDs [(eV 0)])) (eC (.int 5))) (eLst (toDs [(eV 6), (eV 6), (eV 7), (eV 0), (eV 0), (eV 5)]))) (bin2 mulD (eLst (toDs [(eV 0)])) (eC (.int 4)))) (eLst (toDs [(bin2 addD (eV 0) (eC (.int 300))), (bin2 addD (eV 0) (eC (.int 16)))])))), (ifS (orT (notT (tst (eF m_law_same_v3 (toDs [(eV 2), (eV 3)])))) (notT (tst (eF m_law_all_right (toDs [(eV 1), (eLst (toDs [(eC (.int 0)), (eC (.int 0)), (eC (.int 0)), (eC (.int 0)), (eC (.int 1)), (eC (.int 1)), (eC (.int 1)), (eC (.int 1)), (eC (.int 1)), (eC (.int 1)), (eC (.int 1)), (eC (.int 2)), (eC (.int 2)), (eC (.int 2)), (eC (.int 3)), (eC (.int 3))]))]))))) (block [(retS (eC (.bool false)))]) (block []))] = bd)
    (hQ : ∀ w1 w2 w3, Fr w1 → Fr w2 → (w3 = some (.own (W91 c u)) ∨ w3 = some (.fz (.list (W91 c u)))) → Q .nx [some (.fz (.int c)), w1, w2, w3, none, some (.fz (.str u)), some (.fz (.tuple [.int c, .int 3])), some (.fz (.tuple [.int (c + 1), .int 4]))]) :
    Ok (bd [some (.fz (.int c)), w1, some (.own (W91 c u)), none, none, some (.fz (.str u)), some (.fz (.tuple [.int c, .int 3])), some (.fz (.tuple [.int (c + 1), .int 4]))]) Q := by
  have har := all_right91 (.int c) (.int (c + 300)) (.int (c + 16)) (.tuple [.int c, .int 3]) (.tuple [.int (c + 1), .int 4]) (.str u)
  have har : m_law_all_right [.list (E91 c u), .list base91] = some (.ok (.fz (.bool true))) := har
  have m5 : mulD (.list [.int c]) (.int 5) = some (.fresh [.int c, .int c, .int c, .int c, .int c]) := mulD_repL _ (k := 5) (by omega)
  have m4 : mulD (.list [.int c]) (.int 4) = some (.fresh [.int c, .int c, .int c, .int c]) := mulD_repL _ (k := 4) (by omega)
  have hW : W91 c u = [.int c, .int c, .int c, .int c, .int c, .tuple [.int c, .int 3], .tuple [.int c, .int 3], .tuple [.int (c + 1), .int 4], .int c, .int c, .str u, .int c, .int c, .int c, .int c, .int (c + 300), .int (c + 16)] := rfl
  unfold base91 at har
  subst hBd
  generalize E91 c u = L at *
  generalize m_law_all_right = mA at *
  generalize m_law_same_v3 = mS at *
  generalize W91 c u = WW at *
  rcases h1 with rfl | rfl
  all_goals
    simp -implicitDefEqProofs [m5, m4, ← hW, hsame, har]
    first | exact hQ _ _ _ (by simp) (by simp) (.inr rfl) | exact hQ _ _ _ (by simp) (by simp) (.inl rfl)
theorem pD91 {c : Int} {u : Str} (hsame : m_law_same_v3 [.list (W91 c u), .list (W91 c u)] = some (.ok (.fz (.bool true)))) {w1 w2 w3 : Option Sv} (f2 : Fr w2) (h3 : w3 = some (.own (W91 c u)) ∨ w3 = some (.fz (.list (W91 c u)))) {Q : Po Fl} {bd : St1} (hBd : block [(asgS 2 (eLst (toDs [(un1 (attrD "stone") (eErr1 "NoStone" "stone" (toDs [(eV 0)]))), (un1 (attrD "place") (eErr1 "NoPlace" "place" (toDs [(eV 0)]))), (un1 (attrD "number") (eErr1 "NoNumber" "number" (toDs [(eV 0)]))), (un1 (attrD "many") (eErr1 "NoDeed" "many" (toDs [(eV 0)])))]))), (asgS 4 (eErr2 "Clash" "heap" "other" true (toDs [(eV 7), (eV 6)]))), (asgS 2 (bin2 addD (eV 2) (eLst (toDs [(un1 (attrD "stone") (eErr1 "NoCut" "stone" (toDs [(eV 0)]))), (un1 (attrD "heap") (eErr1 "NoHeap" "heap" (toDs [(eV 6)]))), (un1 (attrD "heap") (eV 4)), (un1 (attrD "other") (eV 4))])))), (asgS 2 (bin2 addD (eV 2) (eLst (toDs [(un1 (attrD "index") (eErr1 "Strange" "index" (toDs [(eV 0)]))), (un1 (attrD "at") (eErr1 "BadDeed" "at" (toDs [(eV 0)]))), (un1 (attrD "text") (eErr1 "BadText" "text" (toDs [(eV 5)]))), (un1 (attrD "at") (eErr1 "BadLine" "at" (toDs [(eV 0)])))])))), (asgS 2 (bin2 addD (eV 2) (eLst (toDs [(un1 (attrD "place") (eErr1 "Unlike" "place" (toDs [(eV 0)]))), (un1 (attrD "place") (eErr1 "Odd" "place" (toDs [(eV 0)]))), (un1 (attrD "stones") (eErr1 "Barred" "stones" (toDs [(eV 0)])))])))), (asgS 2 (bin2 addD (eV 2) (eLst (toDs [(un1 (attrD "many") (eErr1 "TooMany" "many" (toDs [(bin2 addD (eV 0) (eC (.int 300)))]))), (un1 (attrD "many") (eErr1 "Full" "many" (toDs [(bin2 addD (eV 0) (eC (.int 16)))])))])))), (retS (eF m_law_same_v3 (toDs [(eV 2), (eV 3)])))] = bd)
    (hQ : ∀ e, Q (.ret (.fz (.bool true))) e) :
    Ok (bd [some (.fz (.int c)), w1, w2, w3, none, some (.fz (.str u)), some (.fz (.tuple [.int c, .int 3])), some (.fz (.tuple [.int (c + 1), .int 4]))]) Q := by
  have b6a : attrD "heap" (errD ⟨"Clash", [("other", .tuple [.int (c + 1), .int 4]), ("heap", .tuple [.int c, .int 3])]⟩) = some (.fz (.tuple [.int c, .int 3])) := attr_err2a (by decide +kernel)
  have b6b : attrD "other" (errD ⟨"Clash", [("other", .tuple [.int (c + 1), .int 4]), ("heap", .tuple [.int c, .int 3])]⟩) = some (.fz (.tuple [.int (c + 1), .int 4])) := attr_err2b
  have hW : W91 c u = [.int c, .int c, .int c, .int c, .int c, .tuple [.int c, .int 3], .tuple [.int c, .int 3], .tuple [.int (c + 1), .int 4], .int c, .int c, .str u, .int c, .int c, .int c, .int c, .int (c + 300), .int (c + 16)] := rfl
  subst hBd
  generalize m_law_same_v3 = mS at *
  generalize W91 c u = WW at *
  rcases h3 with rfl | rfl
  all_goals
    simp -implicitDefEqProofs [okP_fr f2, attr_err, b6a, b6b, ← hW, hsame]
    exact hQ _
theorem right91 {n : Nat} (hn : n < 39) : m_law_right_v80 [.int ((n : Int) + 1)] = some (.ok (.fz (.bool true))) := by
  obtain ⟨t, u, hM⟩ := msg91 hn
  have hsame := sz91 hn hM
  refine fnF_is ?_
  generalize (n : Int) + 1 = c at hM hsame ⊢
  have go : ∀ {Q : Po Fl}, (∀ e, Q (.ret (.fz (.bool true))) e) → Ok (b_law_right_v80 [some (.fz (.int c)), none, none, none, none, none, none, none]) Q := by
    intro Q hQ
    unfold b_law_right_v80
    generalize hB : block _ = bd
    refine block_cutB 4 (fun e => e = [some (.fz (.int c)), some (.own (E91 c u)), none, none, none, some (.fz (.str u)), some (.fz (.tuple [.int c, .int 3])), some (.fz (.tuple [.int (c + 1), .int 4]))]) hB ?_ ?_
    · intro b1 hb1
      exact pA91 hM hb1 rfl
    rintro b2 hb2 e rfl
    refine block_cutB 3 (fun e => ∃ w1, (w1 = some (.own (E91 c u)) ∨ w1 = some (.fz (.list (E91 c u)))) ∧ e = [some (.fz (.int c)), w1, some (.own (W91 c u)), none, none, some (.fz (.str u)), some (.fz (.tuple [.int c, .int 3])), some (.fz (.tuple [.int (c + 1), .int 4]))]) hb2 ?_ ?_
    · intro b1 hb1
      exact pB91 (by simp) hb1 fun w1 h1 => ⟨w1, h1, rfl⟩
    rintro b3 hb3 e ⟨w1, h1, rfl⟩
    refine block_cutB 2 (fun e => ∃ w1 w2 w3, Fr w2 ∧ (w3 = some (.own (W91 c u)) ∨ w3 = some (.fz (.list (W91 c u)))) ∧ e = [some (.fz (.int c)), w1, w2, w3, none, some (.fz (.str u)), some (.fz (.tuple [.int c, .int 3])), some (.fz (.tuple [.int (c + 1), .int 4]))]) hb3 ?_ ?_
    · intro b1 hb1
      exact pC91 hsame h1 hb1 fun w1 w2 w3 f1 f2 h3 => ⟨w1, w2, w3, f2, h3, rfl⟩
    rintro b4 hb4 e ⟨w1, w2, w3, f2, h3, rfl⟩
    exact pD91 hsame f2 h3 hb4 hQ
  generalize b_law_right_v80 = bb at *
  simp only [initE]
  exact go fun e => by simp
end G
set_option Elab.async false
set_option linter.all false
set_option maxRecDepth 100000
set_option maxHeartbeats 4000000
namespace G
open PySem PySem.Spec PyProof.Rows L2 VI Builtin.Int
end G
set_option Elab.async false
set_option linter.all false
set_option maxRecDepth 100000
set_option maxHeartbeats 4000000
namespace G
open PySem PySem.Spec PyProof.Rows L2 VI Builtin.Int
theorem all_t91 {α : Type} (l : List α) : allD (.list (l.map fun _ => PyData.bool true)) = some (.fz (.bool true)) := by
  have h := allD_map (bs := l.map fun _ => true)
  rw [List.map_map] at h
  rw [show (fun (_ : α) => PyData.bool true) = PyData.bool ∘ (fun _ => true) from rfl, h]
  congr 3
  rw [List.all_map, List.all_eq_true]
  intro x _; rfl
theorem pure_law (ns : List Int) (h1 : ns.length ≤ 63) (h2 : ∀ k ∈ ns, intBits k ≤ 1048576) : m_law_v81 [.list (ns.map .int)] = some (.ok (.fz (.bool true))) := by
  refine fnF_is ?_
  unfold b_law_v81
  have hcut : VI.cutD (ns.map PyData.int) none (some 8) = (ns.take 8).map PyData.int := by rw [List.map_take]; exact cut_upto 8
  have hlen : (ns.take 8).length ≤ 63 := by rw [List.length_take]; omega
  generalize hl : ns.take 8 = l at *
  simp -implicitDefEqProofs [hcut]
  refine lcN_ok l PyData.int (fun c => .int (((c.natAbs % 39 : Nat) : Int) + 1)) rfl (by omega) (by simp [tgV]) ?_ ?_
  · intro c hc
    have ha : (if c < 0 then -c else c) % 39 = ((c.natAbs % 39 : Nat) : Int) := by split <;> omega
    refine ⟨_, rfl, ?_⟩
    simp -implicitDefEqProofs [ha]
  · have hml : (l.map fun c => PyData.int (((c.natAbs % 39 : Nat) : Int) + 1)).length + 1 ≤ 16777216 := by rw [List.length_map]; omega
    have he : (l.map fun c => PyData.int (((c.natAbs % 39 : Nat) : Int) + 1)) ++ [.int 1] = (l.map (fun c : Int => c.natAbs % 39) ++ [0]).map fun n : Nat => PyData.int ((n : Int) + 1) := by
      rw [List.map_append, List.map_map]; rfl
    have hlt : ∀ n ∈ l.map (fun c : Int => c.natAbs % 39) ++ [0], n < 39 := fun n hn => by
      rcases List.mem_append.mp hn with h | h
      · obtain ⟨c, _, rfl⟩ := List.mem_map.mp h
        omega
      · rw [List.mem_singleton.mp h]; omega
    have hll : (l.map (fun c : Int => c.natAbs % 39) ++ [0]).length ≤ 100 := by rw [List.length_append, List.length_map]; simp; omega
    generalize l.map (fun c : Int => c.natAbs % 39) ++ [0] = m at *
    generalize (l.map fun c => PyData.int (((c.natAbs % 39 : Nat) : Int) + 1)) = LD at *
    simp -implicitDefEqProofs [hml, he]
    refine lcN_ok m (fun n : Nat => PyData.int ((n : Int) + 1)) (fun _ => .bool true) rfl (by omega) (by simp [tgV]) ?_ ?_
    · intro n hn
      have hr := right91 (hlt n hn)
      refine ⟨_, rfl, ?_⟩
      simp -implicitDefEqProofs [hr]
    · have ha := all_t91 m
      simp -implicitDefEqProofs [ha]
end G
set_option Elab.async false
set_option linter.all false
set_option maxRecDepth 100000
set_option maxHeartbeats 8000000
namespace G
open PySem PySem.Spec PyProof.Rows L2 VI
def top (i : Nat) : Stmt := PySem.Challenge.pw_twinheaps_k91_errors_made.main.body.getD i (.Pass ⟨0, 0, 0, 0⟩)
abbrev st_law_same_v3 : Stmt := top 18
abbrev st_law_kinds : Stmt := top 20
abbrev st_law_bases : Stmt := top 19
abbrev st_law_all_right : Stmt := top 21
abbrev st_law_right_v80 : Stmt := top 22
abbrev st_law_v81 : Stmt := top 23
structure Txt (K : PySem.W.Frag) (mg : Str → Option Value) : Prop where
  d_law_same_v3 : DF K mg "_law_same" "_law_same" st_law_same_v3 ["_law_found", "_law_due"]
  d_law_kinds : DF K mg "_law_kinds" "_law_kinds" st_law_kinds ["_law_made"]
  d_law_bases : DF K mg "_law_bases" "_law_bases" st_law_bases ["_law_made"]
  d_law_all_right : DF K mg "_law_all_right" "_law_all_right" st_law_all_right ["_law_made", "_law_base"]
  d_law_right_v80 : DF K mg "_law_right" "_law_right" st_law_right_v80 ["_law_cell"]
  d_law_v81 : DF K mg "law" "law" st_law_v81 ["_law_script"]
  z_KeyError : mg "KeyError" = none
  z_LookupError : mg "LookupError" = none
  z_NotImplementedError : mg "NotImplementedError" = none
  z_OverflowError : mg "OverflowError" = none
  z_RuntimeError : mg "RuntimeError" = none
  z_ValueError : mg "ValueError" = none
  z_abs : mg "abs" = none
  z_all : mg "all" = none
  z_bool : mg "bool" = none
  z_enumerate : mg "enumerate" = none
  z_int : mg "int" = none
  z_isinstance : mg "isinstance" = none
  z_len : mg "len" = none
  z_list : mg "list" = none
  z_range : mg "range" = none
  z_str : mg "str" = none
  z_tuple : mg "tuple" = none
  z_zip : mg "zip" = none
  er_NoStone : ErrT K mg "NoStone" "stone" "LookupError.__new__" bmLookup "NoStone.__init__" (initOf (top 1))
  er_NoPlace : ErrT K mg "NoPlace" "place" "LookupError.__new__" bmLookup "NoPlace.__init__" (initOf (top 2))
  er_NoNumber : ErrT K mg "NoNumber" "number" "LookupError.__new__" bmLookup "NoNumber.__init__" (initOf (top 3))
  er_NoDeed : ErrT K mg "NoDeed" "many" "LookupError.__new__" bmLookup "NoDeed.__init__" (initOf (top 4))
  er_NoCut : ErrT K mg "NoCut" "stone" "ValueError.__new__" bmValue "NoCut.__init__" (initOf (top 5))
  er_NoHeap : ErrT K mg "NoHeap" "heap" "ValueError.__new__" bmValue "NoHeap.__init__" (initOf (top 6))
  er_Clash : ErrT2 K mg "Clash" "heap" "other" "Clash.__init__" (initOf (top 7))
  er_Strange : ErrT K mg "Strange" "index" "ValueError.__new__" bmValue "Strange.__init__" (initOf (top 8))
  er_BadDeed : ErrT K mg "BadDeed" "at" "ValueError.__new__" bmValue "BadDeed.__init__" (initOf (top 9))
  er_BadText : ErrT K mg "BadText" "text" "ValueError.__new__" bmValue "BadText.__init__" (initOf (top 10))
  er_BadLine : ErrT K mg "BadLine" "at" "ValueError.__new__" bmValue "BadLine.__init__" (initOf (top 11))
  er_Unlike : ErrT K mg "Unlike" "place" "RuntimeError.__new__" bmRuntime "Unlike.__init__" (initOf (top 12))
  er_Odd : ErrT K mg "Odd" "place" "RuntimeError.__new__" bmRuntime "Odd.__init__" (initOf (top 13))
  er_Barred : ErrT K mg "Barred" "stones" "RuntimeError.__new__" bmRuntime "Barred.__init__" (initOf (top 14))
  er_TooMany : ErrT K mg "TooMany" "many" "OverflowError.__new__" bmOverflow "TooMany.__init__" (initOf (top 15))
  er_Full : ErrT K mg "Full" "many" "OverflowError.__new__" bmOverflow "Full.__init__" (initOf (top 16))
  t_NoStone : CatT K mg "NoStone"
  t_NoPlace : CatT K mg "NoPlace"
  t_NoNumber : CatT K mg "NoNumber"
  t_NoDeed : CatT K mg "NoDeed"
  t_NoCut : CatT K mg "NoCut"
  t_NoHeap : CatT K mg "NoHeap"
  t_Clash : CatT K mg "Clash"
  t_Strange : CatT K mg "Strange"
  t_BadDeed : CatT K mg "BadDeed"
  t_BadText : CatT K mg "BadText"
  t_BadLine : CatT K mg "BadLine"
  t_Unlike : CatT K mg "Unlike"
  t_Odd : CatT K mg "Odd"
  t_Barred : CatT K mg "Barred"
  t_TooMany : CatT K mg "TooMany"
  t_Full : CatT K mg "Full"
end G
set_option Elab.async false
set_option linter.all false
set_option maxRecDepth 100000
set_option maxHeartbeats 8000000
namespace G
open PySem PySem.Spec PyProof.Rows L2 VI
variable {P : Program} {W : World} {K : PySem.W.Frag} {mg : Str → Option Value} {base : Heap}
theorem i_NoStone (T : Txt K mg) : ∀ C fI fd, OexE K C "LookupError.__new__" bmLookup → PySem.W.findIn K (.ref C) "stone" = some none → Fun K "__init__" "NoStone.__init__" (initOf (top 1)) fI fd → FnOk P W K mg base CX0 2 fI fd [("self" : Str), "stone"] (spEi C "stone") := fun C fI fd TE hno F => by
  refine ok_einit F base_LookupError TE hno ⟨rfl, rfl, rfl, by decide +kernel, rfl, by decide +kernel, by decide +kernel⟩ fun cdv A outer s H E hr => ?_
  exact pss_cons (ps_expr (pe_einit base_LookupError (by rfl) T.z_LookupError bb_LookupError (pa_cons (pv 0) (pa_cons (pv 1) pa_nil)) (by decide) (by decide) (by rfl))) (pss_one (ps_est base_LookupError (pv 0) (pv 1)))
end G
set_option Elab.async false
set_option linter.all false
set_option maxRecDepth 100000
set_option maxHeartbeats 8000000
namespace G
open PySem PySem.Spec PyProof.Rows L2 VI
variable {P : Program} {W : World} {K : PySem.W.Frag} {mg : Str → Option Value} {base : Heap}
theorem i_NoPlace (T : Txt K mg) : ∀ C fI fd, OexE K C "LookupError.__new__" bmLookup → PySem.W.findIn K (.ref C) "place" = some none → Fun K "__init__" "NoPlace.__init__" (initOf (top 2)) fI fd → FnOk P W K mg base CX0 2 fI fd [("self" : Str), "place"] (spEi C "place") := fun C fI fd TE hno F => by
  refine ok_einit F base_LookupError TE hno ⟨rfl, rfl, rfl, by decide +kernel, rfl, by decide +kernel, by decide +kernel⟩ fun cdv A outer s H E hr => ?_
  exact pss_cons (ps_expr (pe_einit base_LookupError (by rfl) T.z_LookupError bb_LookupError (pa_cons (pv 0) (pa_cons (pv 1) pa_nil)) (by decide) (by decide) (by rfl))) (pss_one (ps_est base_LookupError (pv 0) (pv 1)))
end G
set_option Elab.async false
set_option linter.all false
set_option maxRecDepth 100000
set_option maxHeartbeats 8000000
namespace G
open PySem PySem.Spec PyProof.Rows L2 VI
variable {P : Program} {W : World} {K : PySem.W.Frag} {mg : Str → Option Value} {base : Heap}
theorem i_NoNumber (T : Txt K mg) : ∀ C fI fd, OexE K C "LookupError.__new__" bmLookup → PySem.W.findIn K (.ref C) "number" = some none → Fun K "__init__" "NoNumber.__init__" (initOf (top 3)) fI fd → FnOk P W K mg base CX0 2 fI fd [("self" : Str), "number"] (spEi C "number") := fun C fI fd TE hno F => by
  refine ok_einit F base_LookupError TE hno ⟨rfl, rfl, rfl, by decide +kernel, rfl, by decide +kernel, by decide +kernel⟩ fun cdv A outer s H E hr => ?_
  exact pss_cons (ps_expr (pe_einit base_LookupError (by rfl) T.z_LookupError bb_LookupError (pa_cons (pv 0) (pa_cons (pv 1) pa_nil)) (by decide) (by decide) (by rfl))) (pss_one (ps_est base_LookupError (pv 0) (pv 1)))
end G
set_option Elab.async false
set_option linter.all false
set_option maxRecDepth 100000
set_option maxHeartbeats 8000000
namespace G
open PySem PySem.Spec PyProof.Rows L2 VI
variable {P : Program} {W : World} {K : PySem.W.Frag} {mg : Str → Option Value} {base : Heap}
theorem i_NoDeed (T : Txt K mg) : ∀ C fI fd, OexE K C "LookupError.__new__" bmLookup → PySem.W.findIn K (.ref C) "many" = some none → Fun K "__init__" "NoDeed.__init__" (initOf (top 4)) fI fd → FnOk P W K mg base CX0 2 fI fd [("self" : Str), "many"] (spEi C "many") := fun C fI fd TE hno F => by
  refine ok_einit F base_LookupError TE hno ⟨rfl, rfl, rfl, by decide +kernel, rfl, by decide +kernel, by decide +kernel⟩ fun cdv A outer s H E hr => ?_
  exact pss_cons (ps_expr (pe_einit base_LookupError (by rfl) T.z_LookupError bb_LookupError (pa_cons (pv 0) (pa_cons (pv 1) pa_nil)) (by decide) (by decide) (by rfl))) (pss_one (ps_est base_LookupError (pv 0) (pv 1)))
end G
set_option Elab.async false
set_option linter.all false
set_option maxRecDepth 100000
set_option maxHeartbeats 8000000
namespace G
open PySem PySem.Spec PyProof.Rows L2 VI
variable {P : Program} {W : World} {K : PySem.W.Frag} {mg : Str → Option Value} {base : Heap}
theorem i_NoCut (T : Txt K mg) : ∀ C fI fd, OexE K C "ValueError.__new__" bmValue → PySem.W.findIn K (.ref C) "stone" = some none → Fun K "__init__" "NoCut.__init__" (initOf (top 5)) fI fd → FnOk P W K mg base CX0 2 fI fd [("self" : Str), "stone"] (spEi C "stone") := fun C fI fd TE hno F => by
  refine ok_einit F base_ValueError TE hno ⟨rfl, rfl, rfl, by decide +kernel, rfl, by decide +kernel, by decide +kernel⟩ fun cdv A outer s H E hr => ?_
  exact pss_cons (ps_expr (pe_einit base_ValueError (by rfl) T.z_ValueError bb_ValueError (pa_cons (pv 0) (pa_cons (pv 1) pa_nil)) (by decide) (by decide) (by rfl))) (pss_one (ps_est base_ValueError (pv 0) (pv 1)))
end G
set_option Elab.async false
set_option linter.all false
set_option maxRecDepth 100000
set_option maxHeartbeats 8000000
namespace G
open PySem PySem.Spec PyProof.Rows L2 VI
variable {P : Program} {W : World} {K : PySem.W.Frag} {mg : Str → Option Value} {base : Heap}
theorem i_NoHeap (T : Txt K mg) : ∀ C fI fd, OexE K C "ValueError.__new__" bmValue → PySem.W.findIn K (.ref C) "heap" = some none → Fun K "__init__" "NoHeap.__init__" (initOf (top 6)) fI fd → FnOk P W K mg base CX0 2 fI fd [("self" : Str), "heap"] (spEi C "heap") := fun C fI fd TE hno F => by
  refine ok_einit F base_ValueError TE hno ⟨rfl, rfl, rfl, by decide +kernel, rfl, by decide +kernel, by decide +kernel⟩ fun cdv A outer s H E hr => ?_
  exact pss_cons (ps_expr (pe_einit base_ValueError (by rfl) T.z_ValueError bb_ValueError (pa_cons (pv 0) (pa_cons (pv 1) pa_nil)) (by decide) (by decide) (by rfl))) (pss_one (ps_est base_ValueError (pv 0) (pv 1)))
end G
set_option Elab.async false
set_option linter.all false
set_option maxRecDepth 100000
set_option maxHeartbeats 8000000
namespace G
open PySem PySem.Spec PyProof.Rows L2 VI
variable {P : Program} {W : World} {K : PySem.W.Frag} {mg : Str → Option Value} {base : Heap}
theorem i_Clash (T : Txt K mg) : ∀ C fI fd, OexC K C → PySem.W.findIn K (.ref C) "heap" = some none → PySem.W.findIn K (.ref C) "other" = some none → Fun K "__init__" "Clash.__init__" (initOf (top 7)) fI fd → FnOk P W K mg base CX0 2 fI fd [("self" : Str), "heap", "other"] (spE2 C "heap" "other") := fun C fI fd TE hno hno2 F => by
  refine ok_einit2 F TE hno hno2 ⟨rfl, rfl, rfl, by decide +kernel, rfl, by decide +kernel, by decide +kernel⟩ fun cdv A outer s H E hr => ?_
  exact pss_cons (ps_expr (pe_veinit (by rfl) T.z_ValueError (base_ValueError.hin K) (pa_cons (pv 0) (pa_cons (pv 1) (pa_cons (pv 2) pa_nil))))) (pss_cons (ps_ost (pv 0) (pv 1)) (pss_one (ps_ost (pv 0) (pv 2))))
end G
set_option Elab.async false
set_option linter.all false
set_option maxRecDepth 100000
set_option maxHeartbeats 8000000
namespace G
open PySem PySem.Spec PyProof.Rows L2 VI
variable {P : Program} {W : World} {K : PySem.W.Frag} {mg : Str → Option Value} {base : Heap}
theorem i_Strange (T : Txt K mg) : ∀ C fI fd, OexE K C "ValueError.__new__" bmValue → PySem.W.findIn K (.ref C) "index" = some none → Fun K "__init__" "Strange.__init__" (initOf (top 8)) fI fd → FnOk P W K mg base CX0 2 fI fd [("self" : Str), "index"] (spEi C "index") := fun C fI fd TE hno F => by
  refine ok_einit F base_ValueError TE hno ⟨rfl, rfl, rfl, by decide +kernel, rfl, by decide +kernel, by decide +kernel⟩ fun cdv A outer s H E hr => ?_
  exact pss_cons (ps_expr (pe_einit base_ValueError (by rfl) T.z_ValueError bb_ValueError (pa_cons (pv 0) (pa_cons (pv 1) pa_nil)) (by decide) (by decide) (by rfl))) (pss_one (ps_est base_ValueError (pv 0) (pv 1)))
end G
set_option Elab.async false
set_option linter.all false
set_option maxRecDepth 100000
set_option maxHeartbeats 8000000
namespace G
open PySem PySem.Spec PyProof.Rows L2 VI
variable {P : Program} {W : World} {K : PySem.W.Frag} {mg : Str → Option Value} {base : Heap}
theorem i_BadDeed (T : Txt K mg) : ∀ C fI fd, OexE K C "ValueError.__new__" bmValue → PySem.W.findIn K (.ref C) "at" = some none → Fun K "__init__" "BadDeed.__init__" (initOf (top 9)) fI fd → FnOk P W K mg base CX0 2 fI fd [("self" : Str), "at"] (spEi C "at") := fun C fI fd TE hno F => by
  refine ok_einit F base_ValueError TE hno ⟨rfl, rfl, rfl, by decide +kernel, rfl, by decide +kernel, by decide +kernel⟩ fun cdv A outer s H E hr => ?_
  exact pss_cons (ps_expr (pe_einit base_ValueError (by rfl) T.z_ValueError bb_ValueError (pa_cons (pv 0) (pa_cons (pv 1) pa_nil)) (by decide) (by decide) (by rfl))) (pss_one (ps_est base_ValueError (pv 0) (pv 1)))
end G
set_option Elab.async false
set_option linter.all false
set_option maxRecDepth 100000
set_option maxHeartbeats 8000000
namespace G
open PySem PySem.Spec PyProof.Rows L2 VI
variable {P : Program} {W : World} {K : PySem.W.Frag} {mg : Str → Option Value} {base : Heap}
theorem i_BadText (T : Txt K mg) : ∀ C fI fd, OexE K C "ValueError.__new__" bmValue → PySem.W.findIn K (.ref C) "text" = some none → Fun K "__init__" "BadText.__init__" (initOf (top 10)) fI fd → FnOk P W K mg base CX0 2 fI fd [("self" : Str), "text"] (spEi C "text") := fun C fI fd TE hno F => by
  refine ok_einit F base_ValueError TE hno ⟨rfl, rfl, rfl, by decide +kernel, rfl, by decide +kernel, by decide +kernel⟩ fun cdv A outer s H E hr => ?_
  exact pss_cons (ps_expr (pe_einit base_ValueError (by rfl) T.z_ValueError bb_ValueError (pa_cons (pv 0) (pa_cons (pv 1) pa_nil)) (by decide) (by decide) (by rfl))) (pss_one (ps_est base_ValueError (pv 0) (pv 1)))
end G
set_option Elab.async false
set_option linter.all false
set_option maxRecDepth 100000
set_option maxHeartbeats 8000000
namespace G
open PySem PySem.Spec PyProof.Rows L2 VI
variable {P : Program} {W : World} {K : PySem.W.Frag} {mg : Str → Option Value} {base : Heap}
theorem i_BadLine (T : Txt K mg) : ∀ C fI fd, OexE K C "ValueError.__new__" bmValue → PySem.W.findIn K (.ref C) "at" = some none → Fun K "__init__" "BadLine.__init__" (initOf (top 11)) fI fd → FnOk P W K mg base CX0 2 fI fd [("self" : Str), "at"] (spEi C "at") := fun C fI fd TE hno F => by
  refine ok_einit F base_ValueError TE hno ⟨rfl, rfl, rfl, by decide +kernel, rfl, by decide +kernel, by decide +kernel⟩ fun cdv A outer s H E hr => ?_
  exact pss_cons (ps_expr (pe_einit base_ValueError (by rfl) T.z_ValueError bb_ValueError (pa_cons (pv 0) (pa_cons (pv 1) pa_nil)) (by decide) (by decide) (by rfl))) (pss_one (ps_est base_ValueError (pv 0) (pv 1)))
end G
set_option Elab.async false
set_option linter.all false
set_option maxRecDepth 100000
set_option maxHeartbeats 8000000
namespace G
open PySem PySem.Spec PyProof.Rows L2 VI
variable {P : Program} {W : World} {K : PySem.W.Frag} {mg : Str → Option Value} {base : Heap}
theorem i_Unlike (T : Txt K mg) : ∀ C fI fd, OexE K C "RuntimeError.__new__" bmRuntime → PySem.W.findIn K (.ref C) "place" = some none → Fun K "__init__" "Unlike.__init__" (initOf (top 12)) fI fd → FnOk P W K mg base CX0 2 fI fd [("self" : Str), "place"] (spEi C "place") := fun C fI fd TE hno F => by
  refine ok_einit F base_RuntimeError TE hno ⟨rfl, rfl, rfl, by decide +kernel, rfl, by decide +kernel, by decide +kernel⟩ fun cdv A outer s H E hr => ?_
  exact pss_cons (ps_expr (pe_einit base_RuntimeError (by rfl) T.z_RuntimeError bb_RuntimeError (pa_cons (pv 0) (pa_cons (pv 1) pa_nil)) (by decide) (by decide) (by rfl))) (pss_one (ps_est base_RuntimeError (pv 0) (pv 1)))
end G
set_option Elab.async false
set_option linter.all false
set_option maxRecDepth 100000
set_option maxHeartbeats 8000000
namespace G
open PySem PySem.Spec PyProof.Rows L2 VI
variable {P : Program} {W : World} {K : PySem.W.Frag} {mg : Str → Option Value} {base : Heap}
theorem i_Odd (T : Txt K mg) : ∀ C fI fd, OexE K C "RuntimeError.__new__" bmRuntime → PySem.W.findIn K (.ref C) "place" = some none → Fun K "__init__" "Odd.__init__" (initOf (top 13)) fI fd → FnOk P W K mg base CX0 2 fI fd [("self" : Str), "place"] (spEi C "place") := fun C fI fd TE hno F => by
  refine ok_einit F base_RuntimeError TE hno ⟨rfl, rfl, rfl, by decide +kernel, rfl, by decide +kernel, by decide +kernel⟩ fun cdv A outer s H E hr => ?_
  exact pss_cons (ps_expr (pe_einit base_RuntimeError (by rfl) T.z_RuntimeError bb_RuntimeError (pa_cons (pv 0) (pa_cons (pv 1) pa_nil)) (by decide) (by decide) (by rfl))) (pss_one (ps_est base_RuntimeError (pv 0) (pv 1)))
end G
set_option Elab.async false
set_option linter.all false
set_option maxRecDepth 100000
set_option maxHeartbeats 8000000
namespace G
open PySem PySem.Spec PyProof.Rows L2 VI
variable {P : Program} {W : World} {K : PySem.W.Frag} {mg : Str → Option Value} {base : Heap}
theorem i_Barred (T : Txt K mg) : ∀ C fI fd, OexE K C "RuntimeError.__new__" bmRuntime → PySem.W.findIn K (.ref C) "stones" = some none → Fun K "__init__" "Barred.__init__" (initOf (top 14)) fI fd → FnOk P W K mg base CX0 2 fI fd [("self" : Str), "stones"] (spEi C "stones") := fun C fI fd TE hno F => by
  refine ok_einit F base_RuntimeError TE hno ⟨rfl, rfl, rfl, by decide +kernel, rfl, by decide +kernel, by decide +kernel⟩ fun cdv A outer s H E hr => ?_
  exact pss_cons (ps_expr (pe_einit base_RuntimeError (by rfl) T.z_RuntimeError bb_RuntimeError (pa_cons (pv 0) (pa_cons (pv 1) pa_nil)) (by decide) (by decide) (by rfl))) (pss_one (ps_est base_RuntimeError (pv 0) (pv 1)))
end G
set_option Elab.async false
set_option linter.all false
set_option maxRecDepth 100000
set_option maxHeartbeats 8000000
namespace G
open PySem PySem.Spec PyProof.Rows L2 VI
variable {P : Program} {W : World} {K : PySem.W.Frag} {mg : Str → Option Value} {base : Heap}
theorem i_TooMany (T : Txt K mg) : ∀ C fI fd, OexE K C "OverflowError.__new__" bmOverflow → PySem.W.findIn K (.ref C) "many" = some none → Fun K "__init__" "TooMany.__init__" (initOf (top 15)) fI fd → FnOk P W K mg base CX0 2 fI fd [("self" : Str), "many"] (spEi C "many") := fun C fI fd TE hno F => by
  refine ok_einit F base_OverflowError TE hno ⟨rfl, rfl, rfl, by decide +kernel, rfl, by decide +kernel, by decide +kernel⟩ fun cdv A outer s H E hr => ?_
  exact pss_cons (ps_expr (pe_einit base_OverflowError (by rfl) T.z_OverflowError bb_OverflowError (pa_cons (pv 0) (pa_cons (pv 1) pa_nil)) (by decide) (by decide) (by rfl))) (pss_one (ps_est base_OverflowError (pv 0) (pv 1)))
end G
set_option Elab.async false
set_option linter.all false
set_option maxRecDepth 100000
set_option maxHeartbeats 8000000
namespace G
open PySem PySem.Spec PyProof.Rows L2 VI
variable {P : Program} {W : World} {K : PySem.W.Frag} {mg : Str → Option Value} {base : Heap}
theorem i_Full (T : Txt K mg) : ∀ C fI fd, OexE K C "OverflowError.__new__" bmOverflow → PySem.W.findIn K (.ref C) "many" = some none → Fun K "__init__" "Full.__init__" (initOf (top 16)) fI fd → FnOk P W K mg base CX0 2 fI fd [("self" : Str), "many"] (spEi C "many") := fun C fI fd TE hno F => by
  refine ok_einit F base_OverflowError TE hno ⟨rfl, rfl, rfl, by decide +kernel, rfl, by decide +kernel, by decide +kernel⟩ fun cdv A outer s H E hr => ?_
  exact pss_cons (ps_expr (pe_einit base_OverflowError (by rfl) T.z_OverflowError bb_OverflowError (pa_cons (pv 0) (pa_cons (pv 1) pa_nil)) (by decide) (by decide) (by rfl))) (pss_one (ps_est base_OverflowError (pv 0) (pv 1)))
end G
set_option Elab.async false
set_option linter.all false
set_option maxRecDepth 100000
set_option maxHeartbeats 8000000
namespace G
open PySem PySem.Spec PyProof.Rows L2 VI
variable {P : Program} {W : World} {K : PySem.W.Frag} {mg : Str → Option Value} {base : Heap}
theorem sc_law_same_v3 : FnScope ["_law_found", "_law_due", "_law_mine", "_law_its"] ["_law_found", "_law_due"] (defScope st_law_same_v3) := ⟨rfl, rfl, rfl, by decide +kernel, rfl, by decide +kernel, by decide +kernel⟩
theorem k_law_same_v3 (T : Txt K mg) : ∀ d : Nat, Defn P W K mg base (0 + d) "_law_same" 2 (spF K (XRk K) 2 (r_law_same_v3 d))
  | 0 => T.d_law_same_v3.no rfl
  | d + 1 => T.d_law_same_v3.to rfl fun f fd F => by
    have hh := @def_ok K P W mg base (XRk K) _ _ _ f fd _ _ (0 + d) (b_law_same_v3 (r_law_same_v3 d)) F sc_law_same_v3
    refine hh fun cdv A outer s H E hr hu => ?_
    have self_law_same_v3 := k_law_same_v3 T d
    exact (vss_cons (vs_if (vt_val (ve_isiT kindLst kindTup rfl (by rfl) T.z_isinstance (by rfl) T.z_list bb_list (by rfl) T.z_tuple bb_tuple (ve_var 1))) (vss_cons (vs_if (vt_bool (vw_or (vt_cmp (op_neU hr.units) s_ne (ve_isi kindLst rfl (by rfl) T.z_isinstance (by rfl) T.z_list bb_list (ve_var 0)) (ve_isi kindLst rfl (by rfl) T.z_isinstance (by rfl) T.z_list bb_list (ve_var 1)) (nomark _)) (vw_or1 (vt_cmp (op_neU hr.units) s_ne (ve_isi kindTup rfl (by rfl) T.z_isinstance (by rfl) T.z_tuple bb_tuple (ve_var 0)) (ve_isi kindTup rfl (by rfl) T.z_isinstance (by rfl) T.z_tuple bb_tuple (ve_var 1)) (nomark _))))) (vss_one (vs_ret ve_bl)) vss_nil) (vss_one (vs_ret (ve_and (ve_cmp (op_eqU hr.units) s_eq (ve_blt c_len s_len (by rfl) T.z_len bb_len (va_cons (ve_var 0) va_nil)) (ve_blt c_len s_len (by rfl) T.z_len bb_len (va_cons (ve_var 1) va_nil)) (nomark _)) (ve_one (ve_blt (cr_all rfl) s_all (by rfl) T.z_all bb_all (va_cons (ve_lc (own := [("_law_mine", 2), ("_law_its", 3)]) rfl sc_law_same_v3.nd (vi_zip rfl (by rfl) T.z_zip (ve_var 0) (ve_var 1)) (blkOk_by (own := [("_law_mine", 2), ("_law_its", 3)]) (N := ["_law_found", "_law_due", "_law_mine", "_law_its"]) (sc := defScope st_law_same_v3) (by decide +kernel)) (fun _ _ _ _ _ => (vg_tup rfl (vgs_cons (vg_name (i := 2) sc_law_same_v3.nd rfl (by first | exact .inl rfl | exact .inr rfl)) (vgs_cons (vg_name (i := 3) sc_law_same_v3.nd rfl (by first | exact .inl rfl | exact .inr rfl)) vgs_nil)))) (fun _ _ _ _ _ => vts_nil) (fun _ _ _ _ _ => (ve_call self_law_same_v3 (hr.mono (by omega)) hu (by rfl) (fun σ => passF σ) rfl (vd_cons (ve_var 2) (vd_cons (ve_var 3) vd_nil))))) va_nil))))))) vss_nil) (vss_cons (vs_if (vt_bool (vw_or (vt_cmp op_isN s_isN (ve_var 1) ve_non (nomark _)) (vw_or1 (vt_val (ve_isiT kindBool kindStr rfl (by rfl) T.z_isinstance (by rfl) T.z_bool bb_bool (by rfl) T.z_str bb_str (ve_var 1)))))) (vss_one (vs_ret (ve_and (ve_cmp (op_eqU hr.units) s_eq (ve_var 0) (ve_var 1) (nomark _)) (ve_and (ve_cmp (op_eqU hr.units) s_eq (ve_isi kindBool rfl (by rfl) T.z_isinstance (by rfl) T.z_bool bb_bool (ve_var 0)) (ve_isi kindBool rfl (by rfl) T.z_isinstance (by rfl) T.z_bool bb_bool (ve_var 1)) (nomark _)) (ve_one (ve_cmp (op_eqU hr.units) s_eq (ve_cmp op_isN s_isN (ve_var 0) ve_non (nomark _)) (ve_cmp op_isN s_isN (ve_var 1) ve_non (nomark _)) (nomark _))))))) vss_nil) (vss_one (vs_ret (ve_and (ve_isi kindInt rfl (by rfl) T.z_isinstance (by rfl) T.z_int bb_int (ve_var 0)) (ve_and (ve_not (ve_isi kindBool rfl (by rfl) T.z_isinstance (by rfl) T.z_bool bb_bool (ve_var 0))) (ve_one (ve_cmp (op_eqU hr.units) s_eq (ve_var 0) (ve_var 1) (nomark _)))))))))
theorem e_law_same_v3 (T : Txt K mg) : Defn P W K mg base 60 "_law_same" 2 (spF K (XRk K) 2 m_law_same_v3) := k_law_same_v3 T 60
end G
set_option Elab.async false
set_option linter.all false
set_option maxRecDepth 100000
set_option maxHeartbeats 8000000
namespace G
open PySem PySem.Spec PyProof.Rows L2 VI
variable {P : Program} {W : World} {K : PySem.W.Frag} {mg : Str → Option Value} {base : Heap}
theorem sc_law_kinds : FnScope ["_law_made", "_law_found"] ["_law_made"] (defScope st_law_kinds) := ⟨rfl, rfl, rfl, by decide +kernel, rfl, by decide +kernel, by decide +kernel⟩
theorem g_law_kinds (T : Txt K mg) (f : Addr) (fd : FuncData) (F : Fun K "_law_kinds" "_law_kinds" st_law_kinds f fd) : FnG P W K mg base 1 f fd ["_law_made"] (spF K (XRk K) 1 m_law_kinds) := by
  have hh := @def_ok K P W mg base (XRk K) _ _ _ f fd _ _ 0 b_law_kinds F sc_law_kinds
  refine hh fun cdv A outer s H E hr hu => ?_
  exact (vss_cons (vs_asg (i := 1) sc_law_kinds.nd rfl (by first | exact .inl rfl | exact .inr rfl) (ve_lst (vd_cons (ve_isE rfl (by rfl) T.z_isinstance (clsE_of T.t_NoStone (by rfl)) (ve_var 0)) (vd_cons (ve_isE rfl (by rfl) T.z_isinstance (clsE_of T.t_NoPlace (by rfl)) (ve_var 0)) (vd_cons (ve_isE rfl (by rfl) T.z_isinstance (clsE_of T.t_NoNumber (by rfl)) (ve_var 0)) (vd_cons (ve_isE rfl (by rfl) T.z_isinstance (clsE_of T.t_NoDeed (by rfl)) (ve_var 0)) vd_nil)))))) (vss_cons (vs_asg (i := 1) sc_law_kinds.nd rfl (by first | exact .inl rfl | exact .inr rfl) (ve_bin op_addU s_add (ve_var 1) (ve_lst (vd_cons (ve_isE rfl (by rfl) T.z_isinstance (clsE_of T.t_NoCut (by rfl)) (ve_var 0)) (vd_cons (ve_isE rfl (by rfl) T.z_isinstance (clsE_of T.t_NoHeap (by rfl)) (ve_var 0)) (vd_cons (ve_isE rfl (by rfl) T.z_isinstance (clsE_of T.t_Clash (by rfl)) (ve_var 0)) vd_nil)))))) (vss_cons (vs_expr (ve_mut PySem.F.slot_list_append PySem.F.type_list_append mt_append m_app rfl (ve_var 1) (vd_cons (ve_isE rfl (by rfl) T.z_isinstance (clsE_of T.t_Strange (by rfl)) (ve_var 0)) vd_nil))) (vss_cons (vs_asg (i := 1) sc_law_kinds.nd rfl (by first | exact .inl rfl | exact .inr rfl) (ve_bin op_addU s_add (ve_var 1) (ve_lst (vd_cons (ve_isE rfl (by rfl) T.z_isinstance (clsE_of T.t_BadDeed (by rfl)) (ve_var 0)) (vd_cons (ve_isE rfl (by rfl) T.z_isinstance (clsE_of T.t_BadText (by rfl)) (ve_var 0)) (vd_cons (ve_isE rfl (by rfl) T.z_isinstance (clsE_of T.t_BadLine (by rfl)) (ve_var 0)) vd_nil)))))) (vss_cons (vs_asg (i := 1) sc_law_kinds.nd rfl (by first | exact .inl rfl | exact .inr rfl) (ve_bin op_addU s_add (ve_var 1) (ve_lst (vd_cons (ve_isE rfl (by rfl) T.z_isinstance (clsE_of T.t_Unlike (by rfl)) (ve_var 0)) (vd_cons (ve_isE rfl (by rfl) T.z_isinstance (clsE_of T.t_Odd (by rfl)) (ve_var 0)) (vd_cons (ve_isE rfl (by rfl) T.z_isinstance (clsE_of T.t_Barred (by rfl)) (ve_var 0)) vd_nil)))))) (vss_one (vs_ret (ve_bin op_addU s_add (ve_var 1) (ve_lst (vd_cons (ve_isE rfl (by rfl) T.z_isinstance (clsE_of T.t_TooMany (by rfl)) (ve_var 0)) (vd_cons (ve_isE rfl (by rfl) T.z_isinstance (clsE_of T.t_Full (by rfl)) (ve_var 0)) vd_nil)))))))))))
theorem e_law_kinds (T : Txt K mg) : Defn P W K mg base 1 "_law_kinds" 1 (spF K (XRk K) 1 m_law_kinds) := T.d_law_kinds.to rfl (g_law_kinds T)
end G
set_option Elab.async false
set_option linter.all false
set_option maxRecDepth 100000
set_option maxHeartbeats 8000000
namespace G
open PySem PySem.Spec PyProof.Rows L2 VI
variable {P : Program} {W : World} {K : PySem.W.Frag} {mg : Str → Option Value} {base : Heap}
theorem sc_law_bases : FnScope ["_law_made", "_law_found"] ["_law_made"] (defScope st_law_bases) := ⟨rfl, rfl, rfl, by decide +kernel, rfl, by decide +kernel, by decide +kernel⟩
theorem g_law_bases (T : Txt K mg) (f : Addr) (fd : FuncData) (F : Fun K "_law_bases" "_law_bases" st_law_bases f fd) : FnG P W K mg base 1 f fd ["_law_made"] (spF K (XRk K) 1 m_law_bases) := by
  have hh := @def_ok K P W mg base (XRk K) _ _ _ f fd _ _ 0 b_law_bases F sc_law_bases
  refine hh fun cdv A outer s H E hr hu => ?_
  exact (vss_cons (vs_asg (i := 1) sc_law_bases.nd rfl (by first | exact .inl rfl | exact .inr rfl) (ve_lst (vd_cons (ve_isE rfl (by rfl) T.z_isinstance (clsB_of (by rfl) T.z_LookupError bb_LookupError (by decide) (by decide +kernel)) (ve_var 0)) (vd_cons (ve_isE rfl (by rfl) T.z_isinstance (clsB_of (by rfl) T.z_ValueError bb_ValueError (by decide) (by decide +kernel)) (ve_var 0)) vd_nil)))) (vss_one (vs_ret (ve_bin op_addU s_add (ve_var 1) (ve_lst (vd_cons (ve_isE rfl (by rfl) T.z_isinstance (clsB_of (by rfl) T.z_RuntimeError bb_RuntimeError (by decide) (by decide +kernel)) (ve_var 0)) (vd_cons (ve_isE rfl (by rfl) T.z_isinstance (clsB_of (by rfl) T.z_OverflowError bb_OverflowError (by decide) (by decide +kernel)) (ve_var 0)) vd_nil)))))))
theorem e_law_bases (T : Txt K mg) : Defn P W K mg base 1 "_law_bases" 1 (spF K (XRk K) 1 m_law_bases) := T.d_law_bases.to rfl (g_law_bases T)
end G
set_option Elab.async false
set_option linter.all false
set_option maxRecDepth 100000
set_option maxHeartbeats 8000000
namespace G
open PySem PySem.Spec PyProof.Rows L2 VI
variable {P : Program} {W : World} {K : PySem.W.Frag} {mg : Str → Option Value} {base : Heap}
theorem sc_law_all_right : FnScope ["_law_made", "_law_base", "_law_mark_at", "_law_error", "_law_k"] ["_law_made", "_law_base"] (defScope st_law_all_right) := ⟨rfl, rfl, rfl, by decide +kernel, rfl, by decide +kernel, by decide +kernel⟩
theorem g_law_all_right (T : Txt K mg) (f : Addr) (fd : FuncData) (F : Fun K "_law_all_right" "_law_all_right" st_law_all_right f fd) : FnG P W K mg base 2 f fd ["_law_made", "_law_base"] (spF K (XRk K) 2 m_law_all_right) := by
  have hh := @def_ok K P W mg base (XRk K) _ _ _ f fd _ _ 1 b_law_all_right F sc_law_all_right
  refine hh fun cdv A outer s H E hr hu => ?_
  exact (vss_cons (vs_for (passes_of rfl) rfl (vi_enum rfl (by rfl) T.z_enumerate (ve_var 0)) (vg_tup rfl (vgs_cons (vg_name (i := 2) sc_law_all_right.nd rfl (by first | exact .inl rfl | exact .inr rfl)) (vgs_cons (vg_name (i := 3) sc_law_all_right.nd rfl (by first | exact .inl rfl | exact .inr rfl)) vgs_nil))) (vss_cons (vs_if (vt_cmp (op_neU hr.units) s_ne (ve_call (e_law_kinds T) (hr.mono (by omega)) hu (by rfl) (fun σ => passAt (takes_of rfl rfl rfl rfl) σ) rfl (vd_cons (ve_var 3) vd_nil)) (ve_lc (own := [("_law_k", 4)]) rfl sc_law_all_right.nd (vi_rng1 (by rfl) T.z_range ve_int) (blkOk_by (own := [("_law_k", 4)]) (N := ["_law_made", "_law_base", "_law_mark_at", "_law_error", "_law_k"]) (sc := defScope st_law_all_right) (by decide +kernel)) (fun _ _ _ _ _ => (vg_name (i := 4) sc_law_all_right.nd rfl (by first | exact .inl rfl | exact .inr rfl))) (fun _ _ _ _ _ => vts_nil) (fun _ _ _ _ _ => (ve_cmp (op_eqU hr.units) s_eq (ve_var 4) (ve_var 2) (nomark _)))) (nomark _)) (vss_one (vs_ret ve_bl)) vss_nil) (vss_cons (vs_if (vt_bool (vw_or (vt_cmp op_notBl s_notB (ve_ix ix_seq s_ix (ve_call (e_law_bases T) (hr.mono (by omega)) hu (by rfl) (fun σ => passAt (takes_of rfl rfl rfl rfl) σ) rfl (vd_cons (ve_var 3) vd_nil)) (ve_ix ix_seq s_ix (ve_var 1) (ve_var 2) (fun _ _ => rfl)) (fun _ _ => rfl)) ve_bl (nomark _)) (vw_or1 (vt_val (ve_isEs rfl (by rfl) T.z_isinstance (clss_cons (clsB_of (by rfl) T.z_KeyError bb_KeyError (by decide) (by decide +kernel)) (clss_cons (clsB_of (by rfl) T.z_NotImplementedError bb_NotImplementedError (by decide) (by decide +kernel)) clss_nil)) (by omega) (ve_var 3)))))) (vss_one (vs_ret ve_bl)) vss_nil) (vss_one (vs_if (vt_cmp (op_neU hr.units) s_ne (ve_lc (own := [("_law_k", 4)]) rfl sc_law_all_right.nd (vi_rng1 (by rfl) T.z_range ve_int) (blkOk_by (own := [("_law_k", 4)]) (N := ["_law_made", "_law_base", "_law_mark_at", "_law_error", "_law_k"]) (sc := defScope st_law_all_right) (by decide +kernel)) (fun _ _ _ _ _ => (vg_name (i := 4) sc_law_all_right.nd rfl (by first | exact .inl rfl | exact .inr rfl))) (fun _ _ _ _ _ => (vts_one (vt_bool (vw_and (vt_cmp (op_neU hr.units) s_ne (ve_var 4) (ve_ix ix_seq s_ix (ve_var 1) (ve_var 2) (fun _ _ => rfl)) (nomark _)) (vw_and1 (vt_val (ve_ix ix_seq s_ix (ve_call (e_law_bases T) (hr.mono (by omega)) hu (by rfl) (fun σ => passF σ) rfl (vd_cons (ve_var 3) vd_nil)) (ve_var 4) (fun _ _ => rfl)))))))) (fun _ _ _ _ _ => (ve_var 4))) (ve_lst vd_nil) (nomark _)) (vss_one (vs_ret ve_bl)) vss_nil))))) (vss_one (vs_ret ve_bl)))
theorem e_law_all_right (T : Txt K mg) : Defn P W K mg base 2 "_law_all_right" 2 (spF K (XRk K) 2 m_law_all_right) := T.d_law_all_right.to rfl (g_law_all_right T)
end G
set_option Elab.async false
set_option linter.all false
set_option maxRecDepth 100000
set_option maxHeartbeats 8000000
namespace G
open PySem PySem.Spec PyProof.Rows L2 VI
variable {P : Program} {W : World} {K : PySem.W.Frag} {mg : Str → Option Value} {base : Heap}
theorem sc_law_right_v80 : FnScope ["_law_cell", "_law_made", "_law_found", "_law_due", "_law_both", "_law_message", "_law_pair_of", "_law_other_pair"] ["_law_cell"] (defScope st_law_right_v80) := ⟨rfl, rfl, rfl, by decide +kernel, rfl, by decide +kernel, by decide +kernel⟩
theorem g_law_right_v80 (T : Txt K mg) (f : Addr) (fd : FuncData) (F : Fun K "_law_right" "_law_right" st_law_right_v80 f fd) : FnG P W K mg base 62 f fd ["_law_cell"] (spF K (XRk K) 1 m_law_right_v80) := by
  have hh := @def_ok K P W mg base (XRk K) _ _ _ f fd _ _ 61 b_law_right_v80 F sc_law_right_v80
  refine hh fun cdv A outer s H E hr hu => ?_
  exact (vss_cons (vs_par3 (i := 5) (j := 6) (l := 7) rfl sc_law_right_v80.nd rfl rfl rfl (by decide) (by decide) (by decide) rfl rfl rfl (vm_cons (ve_bin op_addU s_add ve_str (ve_bty call_str_int s_str (by rfl) T.z_str bb_str (va_cons (ve_var 0) va_nil))) (vm_cons (ve_tup (vd_cons (ve_var 0) (vd_cons ve_int vd_nil))) (vm_cons (ve_tup (vd_cons (ve_bin op_addU s_add (ve_var 0) ve_int) (vd_cons ve_int vd_nil))) vm_nil))) rfl) (vss_cons (vs_asg (i := 1) sc_law_right_v80.nd rfl (by first | exact .inl rfl | exact .inr rfl) (ve_lst (vd_cons (ve_err1 rfl T.er_NoStone base_LookupError (i_NoStone T) (by decide) (hr.mono (by omega)) (by rfl) (vd_cons (ve_var 0) vd_nil)) (vd_cons (ve_err1 rfl T.er_NoPlace base_LookupError (i_NoPlace T) (by decide) (hr.mono (by omega)) (by rfl) (vd_cons (ve_var 0) vd_nil)) (vd_cons (ve_err1 rfl T.er_NoNumber base_LookupError (i_NoNumber T) (by decide) (hr.mono (by omega)) (by rfl) (vd_cons (ve_var 0) vd_nil)) (vd_cons (ve_err1 rfl T.er_NoDeed base_LookupError (i_NoDeed T) (by decide) (hr.mono (by omega)) (by rfl) (vd_cons (ve_var 0) vd_nil)) (vd_cons (ve_err1 rfl T.er_NoCut base_ValueError (i_NoCut T) (by decide) (hr.mono (by omega)) (by rfl) (vd_cons (ve_var 0) vd_nil)) (vd_cons (ve_err1 rfl T.er_NoHeap base_ValueError (i_NoHeap T) (by decide) (hr.mono (by omega)) (by rfl) (vd_cons (ve_var 6) vd_nil)) vd_nil)))))))) (vss_cons (vs_asg (i := 1) sc_law_right_v80.nd rfl (by first | exact .inl rfl | exact .inr rfl) (ve_bin op_addU s_add (ve_var 1) (ve_lst (vd_cons (ve_err2 rfl T.er_Clash (i_Clash T) (by decide) (by decide) (hr.mono (by omega)) (by rfl) (vd_cons (ve_var 6) (vd_cons (ve_var 7) vd_nil))) (vd_cons (ve_err1 rfl T.er_Strange base_ValueError (i_Strange T) (by decide) (hr.mono (by omega)) (by rfl) (vd_cons (ve_var 0) vd_nil)) (vd_cons (ve_err1 rfl T.er_BadDeed base_ValueError (i_BadDeed T) (by decide) (hr.mono (by omega)) (by rfl) (vd_cons (ve_var 0) vd_nil)) (vd_cons (ve_err1 rfl T.er_BadText base_ValueError (i_BadText T) (by decide) (hr.mono (by omega)) (by rfl) (vd_cons (ve_var 5) vd_nil)) (vd_cons (ve_err1 rfl T.er_BadLine base_ValueError (i_BadLine T) (by decide) (hr.mono (by omega)) (by rfl) (vd_cons (ve_var 0) vd_nil)) vd_nil)))))))) (vss_cons (vs_asg (i := 1) sc_law_right_v80.nd rfl (by first | exact .inl rfl | exact .inr rfl) (ve_bin op_addU s_add (ve_var 1) (ve_lst (vd_cons (ve_err1 rfl T.er_Unlike base_RuntimeError (i_Unlike T) (by decide) (hr.mono (by omega)) (by rfl) (vd_cons (ve_var 0) vd_nil)) (vd_cons (ve_err1 rfl T.er_Odd base_RuntimeError (i_Odd T) (by decide) (hr.mono (by omega)) (by rfl) (vd_cons (ve_var 0) vd_nil)) (vd_cons (ve_err1 rfl T.er_Barred base_RuntimeError (i_Barred T) (by decide) (hr.mono (by omega)) (by rfl) (vd_cons (ve_var 0) vd_nil)) (vd_cons (ve_err1 rfl T.er_TooMany base_OverflowError (i_TooMany T) (by decide) (hr.mono (by omega)) (by rfl) (vd_cons (ve_bin op_addU s_add (ve_var 0) ve_int) vd_nil)) (vd_cons (ve_err1 rfl T.er_Full base_OverflowError (i_Full T) (by decide) (hr.mono (by omega)) (by rfl) (vd_cons (ve_bin op_addU s_add (ve_var 0) ve_int) vd_nil)) vd_nil)))))))) (vss_cons (vs_asg (i := 2) sc_law_right_v80.nd rfl (by first | exact .inl rfl | exact .inr rfl) (ve_lst (vd_cons (ve_attr rfl (by decide) (ve_ix ix_seq s_ix (ve_var 1) ve_int (fun _ _ => rfl))) (vd_cons (ve_attr rfl (by decide) (ve_ix ix_seq s_ix (ve_var 1) ve_int (fun _ _ => rfl))) (vd_cons (ve_attr rfl (by decide) (ve_ix ix_seq s_ix (ve_var 1) ve_int (fun _ _ => rfl))) (vd_cons (ve_attr rfl (by decide) (ve_ix ix_seq s_ix (ve_var 1) ve_int (fun _ _ => rfl))) (vd_cons (ve_attr rfl (by decide) (ve_ix ix_seq s_ix (ve_var 1) ve_int (fun _ _ => rfl))) (vd_cons (ve_attr rfl (by decide) (ve_ix ix_seq s_ix (ve_var 1) ve_int (fun _ _ => rfl))) (vd_cons (ve_attr rfl (by decide) (ve_ix ix_seq s_ix (ve_var 1) ve_int (fun _ _ => rfl))) vd_nil))))))))) (vss_cons (vs_asg (i := 2) sc_law_right_v80.nd rfl (by first | exact .inl rfl | exact .inr rfl) (ve_bin op_addU s_add (ve_var 2) (ve_lst (vd_cons (ve_attr rfl (by decide) (ve_ix ix_seq s_ix (ve_var 1) ve_int (fun _ _ => rfl))) (vd_cons (ve_attr rfl (by decide) (ve_ix ix_seq s_ix (ve_var 1) ve_int (fun _ _ => rfl))) (vd_cons (ve_attr rfl (by decide) (ve_ix ix_seq s_ix (ve_var 1) ve_int (fun _ _ => rfl))) (vd_cons (ve_attr rfl (by decide) (ve_ix ix_seq s_ix (ve_var 1) ve_int (fun _ _ => rfl))) (vd_cons (ve_attr rfl (by decide) (ve_ix ix_seq s_ix (ve_var 1) ve_int (fun _ _ => rfl))) (vd_cons (ve_attr rfl (by decide) (ve_ix ix_seq s_ix (ve_var 1) ve_int (fun _ _ => rfl))) vd_nil))))))))) (vss_cons (vs_asg (i := 2) sc_law_right_v80.nd rfl (by first | exact .inl rfl | exact .inr rfl) (ve_bin op_addU s_add (ve_var 2) (ve_lst (vd_cons (ve_attr rfl (by decide) (ve_ix ix_seq s_ix (ve_var 1) ve_int (fun _ _ => rfl))) (vd_cons (ve_attr rfl (by decide) (ve_ix ix_seq s_ix (ve_var 1) ve_int (fun _ _ => rfl))) (vd_cons (ve_attr rfl (by decide) (ve_ix ix_seq s_ix (ve_var 1) ve_int (fun _ _ => rfl))) (vd_cons (ve_attr rfl (by decide) (ve_ix ix_seq s_ix (ve_var 1) ve_int (fun _ _ => rfl))) vd_nil))))))) (vss_cons (vs_asg (i := 3) sc_law_right_v80.nd rfl (by first | exact .inl rfl | exact .inr rfl) (ve_bin op_addU s_add (ve_bin op_addU s_add (ve_bin op_addU s_add (ve_bin op_mulU s_mul (ve_lst (vd_cons (ve_var 0) vd_nil)) ve_int) (ve_lst (vd_cons (ve_var 6) (vd_cons (ve_var 6) (vd_cons (ve_var 7) (vd_cons (ve_var 0) (vd_cons (ve_var 0) (vd_cons (ve_var 5) vd_nil)))))))) (ve_bin op_mulU s_mul (ve_lst (vd_cons (ve_var 0) vd_nil)) ve_int)) (ve_lst (vd_cons (ve_bin op_addU s_add (ve_var 0) ve_int) (vd_cons (ve_bin op_addU s_add (ve_var 0) ve_int) vd_nil))))) (vss_cons (vs_if (vt_bool (vw_or (vt_not (vt_val (ve_call (e_law_same_v3 T) (hr.mono (by omega)) hu (by rfl) (fun σ => passAt (takes_of rfl rfl rfl rfl) σ) rfl (vd_cons (ve_var 2) (vd_cons (ve_var 3) vd_nil))))) (vw_or1 (vt_not (vt_val (ve_call (e_law_all_right T) (hr.mono (by omega)) hu (by rfl) (fun σ => passAt (takes_of rfl rfl rfl rfl) σ) rfl (vd_cons (ve_var 1) (vd_cons (ve_lst (vd_cons ve_int (vd_cons ve_int (vd_cons ve_int (vd_cons ve_int (vd_cons ve_int (vd_cons ve_int (vd_cons ve_int (vd_cons ve_int (vd_cons ve_int (vd_cons ve_int (vd_cons ve_int (vd_cons ve_int (vd_cons ve_int (vd_cons ve_int (vd_cons ve_int (vd_cons ve_int vd_nil))))))))))))))))) vd_nil)))))))) (vss_one (vs_ret ve_bl)) vss_nil) (vss_cons (vs_asg (i := 2) sc_law_right_v80.nd rfl (by first | exact .inl rfl | exact .inr rfl) (ve_lst (vd_cons (ve_attr rfl (by decide) (ve_err1k rfl T.er_NoStone base_LookupError (i_NoStone T) (by decide) (hr.mono (by omega)) (by rfl) (fun _ _ _ _ _ _ _ ws hl => match ws, hl with | [_], _ => rfl) (vk_cons (ve_var 0) vk_nil))) (vd_cons (ve_attr rfl (by decide) (ve_err1k rfl T.er_NoPlace base_LookupError (i_NoPlace T) (by decide) (hr.mono (by omega)) (by rfl) (fun _ _ _ _ _ _ _ ws hl => match ws, hl with | [_], _ => rfl) (vk_cons (ve_var 0) vk_nil))) (vd_cons (ve_attr rfl (by decide) (ve_err1k rfl T.er_NoNumber base_LookupError (i_NoNumber T) (by decide) (hr.mono (by omega)) (by rfl) (fun _ _ _ _ _ _ _ ws hl => match ws, hl with | [_], _ => rfl) (vk_cons (ve_var 0) vk_nil))) (vd_cons (ve_attr rfl (by decide) (ve_err1k rfl T.er_NoDeed base_LookupError (i_NoDeed T) (by decide) (hr.mono (by omega)) (by rfl) (fun _ _ _ _ _ _ _ ws hl => match ws, hl with | [_], _ => rfl) (vk_cons (ve_var 0) vk_nil))) vd_nil)))))) (vss_cons (vs_asg (i := 4) sc_law_right_v80.nd rfl (by first | exact .inl rfl | exact .inr rfl) (ve_err2k rfl T.er_Clash (i_Clash T) (by decide) (by decide) (hr.mono (by omega)) (by rfl) (fun _ _ _ _ _ _ _ ws hl => match ws, hl with | [_, _], _ => rfl) (vk_cons (ve_var 7) (vk_cons (ve_var 6) vk_nil)))) (vss_cons (vs_asg (i := 2) sc_law_right_v80.nd rfl (by first | exact .inl rfl | exact .inr rfl) (ve_bin op_addU s_add (ve_var 2) (ve_lst (vd_cons (ve_attr rfl (by decide) (ve_err1k rfl T.er_NoCut base_ValueError (i_NoCut T) (by decide) (hr.mono (by omega)) (by rfl) (fun _ _ _ _ _ _ _ ws hl => match ws, hl with | [_], _ => rfl) (vk_cons (ve_var 0) vk_nil))) (vd_cons (ve_attr rfl (by decide) (ve_err1k rfl T.er_NoHeap base_ValueError (i_NoHeap T) (by decide) (hr.mono (by omega)) (by rfl) (fun _ _ _ _ _ _ _ ws hl => match ws, hl with | [_], _ => rfl) (vk_cons (ve_var 6) vk_nil))) (vd_cons (ve_attr rfl (by decide) (ve_var 4)) (vd_cons (ve_attr rfl (by decide) (ve_var 4)) vd_nil))))))) (vss_cons (vs_asg (i := 2) sc_law_right_v80.nd rfl (by first | exact .inl rfl | exact .inr rfl) (ve_bin op_addU s_add (ve_var 2) (ve_lst (vd_cons (ve_attr rfl (by decide) (ve_err1k rfl T.er_Strange base_ValueError (i_Strange T) (by decide) (hr.mono (by omega)) (by rfl) (fun _ _ _ _ _ _ _ ws hl => match ws, hl with | [_], _ => rfl) (vk_cons (ve_var 0) vk_nil))) (vd_cons (ve_attr rfl (by decide) (ve_err1k rfl T.er_BadDeed base_ValueError (i_BadDeed T) (by decide) (hr.mono (by omega)) (by rfl) (fun _ _ _ _ _ _ _ ws hl => match ws, hl with | [_], _ => rfl) (vk_cons (ve_var 0) vk_nil))) (vd_cons (ve_attr rfl (by decide) (ve_err1k rfl T.er_BadText base_ValueError (i_BadText T) (by decide) (hr.mono (by omega)) (by rfl) (fun _ _ _ _ _ _ _ ws hl => match ws, hl with | [_], _ => rfl) (vk_cons (ve_var 5) vk_nil))) (vd_cons (ve_attr rfl (by decide) (ve_err1k rfl T.er_BadLine base_ValueError (i_BadLine T) (by decide) (hr.mono (by omega)) (by rfl) (fun _ _ _ _ _ _ _ ws hl => match ws, hl with | [_], _ => rfl) (vk_cons (ve_var 0) vk_nil))) vd_nil))))))) (vss_cons (vs_asg (i := 2) sc_law_right_v80.nd rfl (by first | exact .inl rfl | exact .inr rfl) (ve_bin op_addU s_add (ve_var 2) (ve_lst (vd_cons (ve_attr rfl (by decide) (ve_err1k rfl T.er_Unlike base_RuntimeError (i_Unlike T) (by decide) (hr.mono (by omega)) (by rfl) (fun _ _ _ _ _ _ _ ws hl => match ws, hl with | [_], _ => rfl) (vk_cons (ve_var 0) vk_nil))) (vd_cons (ve_attr rfl (by decide) (ve_err1k rfl T.er_Odd base_RuntimeError (i_Odd T) (by decide) (hr.mono (by omega)) (by rfl) (fun _ _ _ _ _ _ _ ws hl => match ws, hl with | [_], _ => rfl) (vk_cons (ve_var 0) vk_nil))) (vd_cons (ve_attr rfl (by decide) (ve_err1k rfl T.er_Barred base_RuntimeError (i_Barred T) (by decide) (hr.mono (by omega)) (by rfl) (fun _ _ _ _ _ _ _ ws hl => match ws, hl with | [_], _ => rfl) (vk_cons (ve_var 0) vk_nil))) vd_nil)))))) (vss_cons (vs_asg (i := 2) sc_law_right_v80.nd rfl (by first | exact .inl rfl | exact .inr rfl) (ve_bin op_addU s_add (ve_var 2) (ve_lst (vd_cons (ve_attr rfl (by decide) (ve_err1k rfl T.er_TooMany base_OverflowError (i_TooMany T) (by decide) (hr.mono (by omega)) (by rfl) (fun _ _ _ _ _ _ _ ws hl => match ws, hl with | [_], _ => rfl) (vk_cons (ve_bin op_addU s_add (ve_var 0) ve_int) vk_nil))) (vd_cons (ve_attr rfl (by decide) (ve_err1k rfl T.er_Full base_OverflowError (i_Full T) (by decide) (hr.mono (by omega)) (by rfl) (fun _ _ _ _ _ _ _ ws hl => match ws, hl with | [_], _ => rfl) (vk_cons (ve_bin op_addU s_add (ve_var 0) ve_int) vk_nil))) vd_nil))))) (vss_one (vs_ret (ve_call (e_law_same_v3 T) (hr.mono (by omega)) hu (by rfl) (fun σ => passAt (takes_of rfl rfl rfl rfl) σ) rfl (vd_cons (ve_var 2) (vd_cons (ve_var 3) vd_nil))))))))))))))))))))
theorem e_law_right_v80 (T : Txt K mg) : Defn P W K mg base 62 "_law_right" 1 (spF K (XRk K) 1 m_law_right_v80) := T.d_law_right_v80.to rfl (g_law_right_v80 T)
end G
set_option Elab.async false
set_option linter.all false
set_option maxRecDepth 100000
set_option maxHeartbeats 8000000
namespace G
open PySem PySem.Spec PyProof.Rows L2 VI
variable {P : Program} {W : World} {K : PySem.W.Frag} {mg : Str → Option Value} {base : Heap}
theorem sc_law_v81 : FnScope ["_law_script", "_law_cells", "_law_cell"] ["_law_script"] (defScope st_law_v81) := ⟨rfl, rfl, rfl, by decide +kernel, rfl, by decide +kernel, by decide +kernel⟩
theorem g_law_v81 (T : Txt K mg) (f : Addr) (fd : FuncData) (F : Fun K "law" "law" st_law_v81 f fd) : FnG P W K mg base 63 f fd ["_law_script"] (spF K (XRk K) 1 m_law_v81) := by
  have hh := @def_ok K P W mg base (XRk K) _ _ _ f fd _ _ 62 b_law_v81 F sc_law_v81
  refine hh fun cdv A outer s H E hr hu => ?_
  exact (vss_cons (vs_asg (i := 1) sc_law_v81.nd rfl (by first | exact .inl rfl | exact .inr rfl) (ve_bin op_addU s_add (ve_lc (own := [("_law_cell", 2)]) rfl sc_law_v81.nd (vi_src (ve_slice rfl (ve_var 0) vo_none (vo_some ve_int))) (blkOk_by (own := [("_law_cell", 2)]) (N := ["_law_script", "_law_cells", "_law_cell"]) (sc := defScope st_law_v81) (by decide +kernel)) (fun _ _ _ _ _ => (vg_name (i := 2) sc_law_v81.nd rfl (by first | exact .inl rfl | exact .inr rfl))) (fun _ _ _ _ _ => vts_nil) (fun _ _ _ _ _ => (ve_bin op_addU s_add (ve_bin op_mod s_mod (ve_blt call_abs s_abs (by rfl) T.z_abs bb_abs (va_cons (ve_var 2) va_nil)) ve_int) ve_int))) (ve_lst (vd_cons ve_int vd_nil)))) (vss_one (vs_ret (ve_blt (cr_all rfl) s_all (by rfl) T.z_all bb_all (va_cons (ve_lc (own := [("_law_cell", 2)]) rfl sc_law_v81.nd (vi_src (ve_var 1)) (blkOk_by (own := [("_law_cell", 2)]) (N := ["_law_script", "_law_cells", "_law_cell"]) (sc := defScope st_law_v81) (by decide +kernel)) (fun _ _ _ _ _ => (vg_name (i := 2) sc_law_v81.nd rfl (by first | exact .inl rfl | exact .inr rfl))) (fun _ _ _ _ _ => vts_nil) (fun _ _ _ _ _ => (ve_call (e_law_right_v80 T) (hr.mono (by omega)) hu (by rfl) (fun σ => passF σ) rfl (vd_cons (ve_var 2) vd_nil)))) va_nil)))))
end G
set_option Elab.async false
set_option linter.all false
set_option maxRecDepth 100000
set_option maxHeartbeats 8000000
namespace G
open PySem PySem.Spec PyProof.Rows L2 VI
theorem all_mk {K : PySem.W.Frag} {h : Heap} {mg : Str → Option Value} {fa : Addr} (X : K.In h) (G : h.Ns mainGlobals mg) (hfa : mg "law" = some (.ref fa))
    {f0 : Addr} {od0 an0 : Option Addr} {sl0 : Array (Option Value)} {oc0 kV0 dc0 pm0 cd0 ct0 : Value}
    {f1 : Addr} {od1 an1 : Option Addr} {sl1 : Array (Option Value)} {oc1 kV1 dc1 pm1 cd1 ct1 : Value}
    {f2 : Addr} {od2 an2 : Option Addr} {sl2 : Array (Option Value)} {oc2 kV2 dc2 pm2 cd2 ct2 : Value}
    {f3 : Addr} {od3 an3 : Option Addr} {sl3 : Array (Option Value)} {oc3 kV3 dc3 pm3 cd3 ct3 : Value}
    {f4 : Addr} {od4 an4 : Option Addr} {sl4 : Array (Option Value)} {oc4 kV4 dc4 pm4 cd4 ct4 : Value}
    {f5 : Addr} {od5 an5 : Option Addr} {sl5 : Array (Option Value)} {oc5 kV5 dc5 pm5 cd5 ct5 : Value}
    {C_NoStone f_NoStone N_NoStone : Addr} {nm_NoStone : Str} {bs_NoStone sub_NoStone : List Value} {sn_NoStone : List Str} {ab_NoStone : Bool} {col_NoStone : Option Bool} {dd_NoStone od_NoStone an_NoStone : Option Addr} {m0_NoStone m1_NoStone m2_NoStone m3_NoStone m5_NoStone : Option Value} {sl_NoStone : Array (Option Value)} {oc_NoStone kV_NoStone dc_NoStone pm_NoStone cd_NoStone ct_NoStone : Value}
    {C_NoPlace f_NoPlace N_NoPlace : Addr} {nm_NoPlace : Str} {bs_NoPlace sub_NoPlace : List Value} {sn_NoPlace : List Str} {ab_NoPlace : Bool} {col_NoPlace : Option Bool} {dd_NoPlace od_NoPlace an_NoPlace : Option Addr} {m0_NoPlace m1_NoPlace m2_NoPlace m3_NoPlace m5_NoPlace : Option Value} {sl_NoPlace : Array (Option Value)} {oc_NoPlace kV_NoPlace dc_NoPlace pm_NoPlace cd_NoPlace ct_NoPlace : Value}
    {C_NoNumber f_NoNumber N_NoNumber : Addr} {nm_NoNumber : Str} {bs_NoNumber sub_NoNumber : List Value} {sn_NoNumber : List Str} {ab_NoNumber : Bool} {col_NoNumber : Option Bool} {dd_NoNumber od_NoNumber an_NoNumber : Option Addr} {m0_NoNumber m1_NoNumber m2_NoNumber m3_NoNumber m5_NoNumber : Option Value} {sl_NoNumber : Array (Option Value)} {oc_NoNumber kV_NoNumber dc_NoNumber pm_NoNumber cd_NoNumber ct_NoNumber : Value}
    {C_NoDeed f_NoDeed N_NoDeed : Addr} {nm_NoDeed : Str} {bs_NoDeed sub_NoDeed : List Value} {sn_NoDeed : List Str} {ab_NoDeed : Bool} {col_NoDeed : Option Bool} {dd_NoDeed od_NoDeed an_NoDeed : Option Addr} {m0_NoDeed m1_NoDeed m2_NoDeed m3_NoDeed m5_NoDeed : Option Value} {sl_NoDeed : Array (Option Value)} {oc_NoDeed kV_NoDeed dc_NoDeed pm_NoDeed cd_NoDeed ct_NoDeed : Value}
    {C_NoCut f_NoCut N_NoCut : Addr} {nm_NoCut : Str} {bs_NoCut sub_NoCut : List Value} {sn_NoCut : List Str} {ab_NoCut : Bool} {col_NoCut : Option Bool} {dd_NoCut od_NoCut an_NoCut : Option Addr} {m0_NoCut m1_NoCut m2_NoCut m3_NoCut m5_NoCut : Option Value} {sl_NoCut : Array (Option Value)} {oc_NoCut kV_NoCut dc_NoCut pm_NoCut cd_NoCut ct_NoCut : Value}
    {C_NoHeap f_NoHeap N_NoHeap : Addr} {nm_NoHeap : Str} {bs_NoHeap sub_NoHeap : List Value} {sn_NoHeap : List Str} {ab_NoHeap : Bool} {col_NoHeap : Option Bool} {dd_NoHeap od_NoHeap an_NoHeap : Option Addr} {m0_NoHeap m1_NoHeap m2_NoHeap m3_NoHeap m5_NoHeap : Option Value} {sl_NoHeap : Array (Option Value)} {oc_NoHeap kV_NoHeap dc_NoHeap pm_NoHeap cd_NoHeap ct_NoHeap : Value}
    {C_Clash f_Clash N_Clash : Addr} {nm_Clash : Str} {bs_Clash sub_Clash : List Value} {sn_Clash : List Str} {ab_Clash : Bool} {col_Clash : Option Bool} {dd_Clash od_Clash an_Clash : Option Addr} {m0_Clash m1_Clash m2_Clash m3_Clash m5_Clash : Option Value} {sl_Clash : Array (Option Value)} {oc_Clash kV_Clash dc_Clash pm_Clash cd_Clash ct_Clash : Value}
    {C_Strange f_Strange N_Strange : Addr} {nm_Strange : Str} {bs_Strange sub_Strange : List Value} {sn_Strange : List Str} {ab_Strange : Bool} {col_Strange : Option Bool} {dd_Strange od_Strange an_Strange : Option Addr} {m0_Strange m1_Strange m2_Strange m3_Strange m5_Strange : Option Value} {sl_Strange : Array (Option Value)} {oc_Strange kV_Strange dc_Strange pm_Strange cd_Strange ct_Strange : Value}
    {C_BadDeed f_BadDeed N_BadDeed : Addr} {nm_BadDeed : Str} {bs_BadDeed sub_BadDeed : List Value} {sn_BadDeed : List Str} {ab_BadDeed : Bool} {col_BadDeed : Option Bool} {dd_BadDeed od_BadDeed an_BadDeed : Option Addr} {m0_BadDeed m1_BadDeed m2_BadDeed m3_BadDeed m5_BadDeed : Option Value} {sl_BadDeed : Array (Option Value)} {oc_BadDeed kV_BadDeed dc_BadDeed pm_BadDeed cd_BadDeed ct_BadDeed : Value}
    {C_BadText f_BadText N_BadText : Addr} {nm_BadText : Str} {bs_BadText sub_BadText : List Value} {sn_BadText : List Str} {ab_BadText : Bool} {col_BadText : Option Bool} {dd_BadText od_BadText an_BadText : Option Addr} {m0_BadText m1_BadText m2_BadText m3_BadText m5_BadText : Option Value} {sl_BadText : Array (Option Value)} {oc_BadText kV_BadText dc_BadText pm_BadText cd_BadText ct_BadText : Value}
    {C_BadLine f_BadLine N_BadLine : Addr} {nm_BadLine : Str} {bs_BadLine sub_BadLine : List Value} {sn_BadLine : List Str} {ab_BadLine : Bool} {col_BadLine : Option Bool} {dd_BadLine od_BadLine an_BadLine : Option Addr} {m0_BadLine m1_BadLine m2_BadLine m3_BadLine m5_BadLine : Option Value} {sl_BadLine : Array (Option Value)} {oc_BadLine kV_BadLine dc_BadLine pm_BadLine cd_BadLine ct_BadLine : Value}
    {C_Unlike f_Unlike N_Unlike : Addr} {nm_Unlike : Str} {bs_Unlike sub_Unlike : List Value} {sn_Unlike : List Str} {ab_Unlike : Bool} {col_Unlike : Option Bool} {dd_Unlike od_Unlike an_Unlike : Option Addr} {m0_Unlike m1_Unlike m2_Unlike m3_Unlike m5_Unlike : Option Value} {sl_Unlike : Array (Option Value)} {oc_Unlike kV_Unlike dc_Unlike pm_Unlike cd_Unlike ct_Unlike : Value}
    {C_Odd f_Odd N_Odd : Addr} {nm_Odd : Str} {bs_Odd sub_Odd : List Value} {sn_Odd : List Str} {ab_Odd : Bool} {col_Odd : Option Bool} {dd_Odd od_Odd an_Odd : Option Addr} {m0_Odd m1_Odd m2_Odd m3_Odd m5_Odd : Option Value} {sl_Odd : Array (Option Value)} {oc_Odd kV_Odd dc_Odd pm_Odd cd_Odd ct_Odd : Value}
    {C_Barred f_Barred N_Barred : Addr} {nm_Barred : Str} {bs_Barred sub_Barred : List Value} {sn_Barred : List Str} {ab_Barred : Bool} {col_Barred : Option Bool} {dd_Barred od_Barred an_Barred : Option Addr} {m0_Barred m1_Barred m2_Barred m3_Barred m5_Barred : Option Value} {sl_Barred : Array (Option Value)} {oc_Barred kV_Barred dc_Barred pm_Barred cd_Barred ct_Barred : Value}
    {C_TooMany f_TooMany N_TooMany : Addr} {nm_TooMany : Str} {bs_TooMany sub_TooMany : List Value} {sn_TooMany : List Str} {ab_TooMany : Bool} {col_TooMany : Option Bool} {dd_TooMany od_TooMany an_TooMany : Option Addr} {m0_TooMany m1_TooMany m2_TooMany m3_TooMany m5_TooMany : Option Value} {sl_TooMany : Array (Option Value)} {oc_TooMany kV_TooMany dc_TooMany pm_TooMany cd_TooMany ct_TooMany : Value}
    {C_Full f_Full N_Full : Addr} {nm_Full : Str} {bs_Full sub_Full : List Value} {sn_Full : List Str} {ab_Full : Bool} {col_Full : Option Bool} {dd_Full od_Full an_Full : Option Addr} {m0_Full m1_Full m2_Full m3_Full m5_Full : Option Value} {sl_Full : Array (Option Value)} {oc_Full kV_Full dc_Full pm_Full cd_Full ct_Full : Value}
    {S_NoStone : Addr}
    {S_NoPlace : Addr}
    {S_NoNumber : Addr}
    {S_NoDeed : Addr}
    {S_NoCut : Addr}
    {S_NoHeap : Addr}
    {S_Clash : Addr}
    {S_Strange : Addr}
    {S_BadDeed : Addr}
    {S_BadText : Addr}
    {S_BadLine : Addr}
    {S_Unlike : Addr}
    {S_Odd : Addr}
    {S_Barred : Addr}
    {S_TooMany : Addr}
    {S_Full : Addr}
    (a0 : PySem.W.nsIn K mainGlobals "_law_same" = some (some (.ref f0)))
    (l0 : K.lookup f0 = some ⟨oc0, od0, .func (PySem.W.fnOf "_law_same" "_law_same" (defArgs st_law_same_v3) (defBody st_law_same_v3) (defScope st_law_same_v3) .none kV0 dc0 pm0 an0 cd0 ct0), sl0⟩)
    (c0 : PySem.W.codeIn K cd0 "_law_same" = true)
    (k0 : PySem.W.keepIn K (.ref f0) = true)
    (a1 : PySem.W.nsIn K mainGlobals "_law_kinds" = some (some (.ref f1)))
    (l1 : K.lookup f1 = some ⟨oc1, od1, .func (PySem.W.fnOf "_law_kinds" "_law_kinds" (defArgs st_law_kinds) (defBody st_law_kinds) (defScope st_law_kinds) .none kV1 dc1 pm1 an1 cd1 ct1), sl1⟩)
    (c1 : PySem.W.codeIn K cd1 "_law_kinds" = true)
    (k1 : PySem.W.keepIn K (.ref f1) = true)
    (a2 : PySem.W.nsIn K mainGlobals "_law_bases" = some (some (.ref f2)))
    (l2 : K.lookup f2 = some ⟨oc2, od2, .func (PySem.W.fnOf "_law_bases" "_law_bases" (defArgs st_law_bases) (defBody st_law_bases) (defScope st_law_bases) .none kV2 dc2 pm2 an2 cd2 ct2), sl2⟩)
    (c2 : PySem.W.codeIn K cd2 "_law_bases" = true)
    (k2 : PySem.W.keepIn K (.ref f2) = true)
    (a3 : PySem.W.nsIn K mainGlobals "_law_all_right" = some (some (.ref f3)))
    (l3 : K.lookup f3 = some ⟨oc3, od3, .func (PySem.W.fnOf "_law_all_right" "_law_all_right" (defArgs st_law_all_right) (defBody st_law_all_right) (defScope st_law_all_right) .none kV3 dc3 pm3 an3 cd3 ct3), sl3⟩)
    (c3 : PySem.W.codeIn K cd3 "_law_all_right" = true)
    (k3 : PySem.W.keepIn K (.ref f3) = true)
    (a4 : PySem.W.nsIn K mainGlobals "_law_right" = some (some (.ref f4)))
    (l4 : K.lookup f4 = some ⟨oc4, od4, .func (PySem.W.fnOf "_law_right" "_law_right" (defArgs st_law_right_v80) (defBody st_law_right_v80) (defScope st_law_right_v80) .none kV4 dc4 pm4 an4 cd4 ct4), sl4⟩)
    (c4 : PySem.W.codeIn K cd4 "_law_right" = true)
    (k4 : PySem.W.keepIn K (.ref f4) = true)
    (a5 : PySem.W.nsIn K mainGlobals "law" = some (some (.ref f5)))
    (l5 : K.lookup f5 = some ⟨oc5, od5, .func (PySem.W.fnOf "law" "law" (defArgs st_law_v81) (defBody st_law_v81) (defScope st_law_v81) .none kV5 dc5 pm5 an5 cd5 ct5), sl5⟩)
    (c5 : PySem.W.codeIn K cd5 "law" = true)
    (k5 : PySem.W.keepIn K (.ref f5) = true)
    (z_KeyError : PySem.W.nsIn K mainGlobals "KeyError" = some none)
    (z_LookupError : PySem.W.nsIn K mainGlobals "LookupError" = some none)
    (z_NotImplementedError : PySem.W.nsIn K mainGlobals "NotImplementedError" = some none)
    (z_OverflowError : PySem.W.nsIn K mainGlobals "OverflowError" = some none)
    (z_RuntimeError : PySem.W.nsIn K mainGlobals "RuntimeError" = some none)
    (z_ValueError : PySem.W.nsIn K mainGlobals "ValueError" = some none)
    (z_abs : PySem.W.nsIn K mainGlobals "abs" = some none)
    (z_all : PySem.W.nsIn K mainGlobals "all" = some none)
    (z_bool : PySem.W.nsIn K mainGlobals "bool" = some none)
    (z_enumerate : PySem.W.nsIn K mainGlobals "enumerate" = some none)
    (z_int : PySem.W.nsIn K mainGlobals "int" = some none)
    (z_isinstance : PySem.W.nsIn K mainGlobals "isinstance" = some none)
    (z_len : PySem.W.nsIn K mainGlobals "len" = some none)
    (z_list : PySem.W.nsIn K mainGlobals "list" = some none)
    (z_range : PySem.W.nsIn K mainGlobals "range" = some none)
    (z_str : PySem.W.nsIn K mainGlobals "str" = some none)
    (z_tuple : PySem.W.nsIn K mainGlobals "tuple" = some none)
    (z_zip : PySem.W.nsIn K mainGlobals "zip" = some none)
    (aC_NoStone : PySem.W.nsIn K mainGlobals "NoStone" = some (some (.ref C_NoStone)))
    (xL_NoStone : K.lookup C_NoStone = some (excClassObj nm_NoStone "NoStone" C_NoStone N_NoStone bs_NoStone bmLookup true sn_NoStone sub_NoStone ab_NoStone col_NoStone dd_NoStone m0_NoStone m1_NoStone m2_NoStone m3_NoStone m5_NoStone "LookupError.__new__"))
    (sa_NoStone : PySem.W.findIn K (.ref C_NoStone) "__setattr__" = some (some (.builtin "object.__setattr__")))
    (ga_NoStone : PySem.W.findIn K (.ref C_NoStone) "__getattribute__" = some (some (.builtin "BaseException.__getattribute__")))
    (gg_NoStone : PySem.W.findIn K (.ref C_NoStone) "__getattr__" = some none)
    (gc_NoStone : PySem.W.findIn K (.ref C_NoStone) "__class__" = some (some (.builtin "object.__class__")))
    (sg_NoStone : PySem.W.specialIn K (.builtin "object.__class__") "__get__" = some (some (.builtin "getset_descriptor.__get__")))
    (tg_NoStone : PySem.W.takesIn K (.builtin "object.__class__") = some true)
    (mo_NoStone : PySem.W.mroIn K C_NoStone (.type "object") = some true)
    (i1_NoStone : PySem.W.findIn K (.ref C_NoStone) "__init__" = some (some (.ref f_NoStone)))
    (t1_NoStone : PySem.W.typeIn K (.ref f_NoStone) = some (.type "function"))
    (l1_NoStone : K.lookup f_NoStone = some ⟨oc_NoStone, od_NoStone, .func (PySem.W.fnOf "__init__" "NoStone.__init__" (defArgs (initOf (top 1))) (defBody (initOf (top 1))) (defScope (initOf (top 1))) .none kV_NoStone dc_NoStone pm_NoStone an_NoStone cd_NoStone ct_NoStone), sl_NoStone⟩)
    (c1_NoStone : PySem.W.codeIn K cd_NoStone "NoStone.__init__" = true)
    (k1_NoStone : PySem.W.keepIn K (.ref f_NoStone) = true)
    (kC_NoStone : PySem.W.keepIn K (.ref C_NoStone) = true)
    (eC_NoStone : PySem.W.subIn K (.ref C_NoStone) (.type "BaseException") = some true)
    (tC_NoStone : PySem.W.typeIn K (.ref C_NoStone) = some (.type "type"))
    (hC_NoStone : PySem.W.hasDictIn K C_NoStone = true)
    (fl_NoStone : flB K C_NoStone = true)
    (ak_NoStone : askB K C_NoStone "NoStone" = true)
    (ow_NoStone : ownB K C_NoStone "NoStone" = true)
    (aC_NoPlace : PySem.W.nsIn K mainGlobals "NoPlace" = some (some (.ref C_NoPlace)))
    (xL_NoPlace : K.lookup C_NoPlace = some (excClassObj nm_NoPlace "NoPlace" C_NoPlace N_NoPlace bs_NoPlace bmLookup true sn_NoPlace sub_NoPlace ab_NoPlace col_NoPlace dd_NoPlace m0_NoPlace m1_NoPlace m2_NoPlace m3_NoPlace m5_NoPlace "LookupError.__new__"))
    (sa_NoPlace : PySem.W.findIn K (.ref C_NoPlace) "__setattr__" = some (some (.builtin "object.__setattr__")))
    (ga_NoPlace : PySem.W.findIn K (.ref C_NoPlace) "__getattribute__" = some (some (.builtin "BaseException.__getattribute__")))
    (gg_NoPlace : PySem.W.findIn K (.ref C_NoPlace) "__getattr__" = some none)
    (gc_NoPlace : PySem.W.findIn K (.ref C_NoPlace) "__class__" = some (some (.builtin "object.__class__")))
    (sg_NoPlace : PySem.W.specialIn K (.builtin "object.__class__") "__get__" = some (some (.builtin "getset_descriptor.__get__")))
    (tg_NoPlace : PySem.W.takesIn K (.builtin "object.__class__") = some true)
    (mo_NoPlace : PySem.W.mroIn K C_NoPlace (.type "object") = some true)
    (i1_NoPlace : PySem.W.findIn K (.ref C_NoPlace) "__init__" = some (some (.ref f_NoPlace)))
    (t1_NoPlace : PySem.W.typeIn K (.ref f_NoPlace) = some (.type "function"))
    (l1_NoPlace : K.lookup f_NoPlace = some ⟨oc_NoPlace, od_NoPlace, .func (PySem.W.fnOf "__init__" "NoPlace.__init__" (defArgs (initOf (top 2))) (defBody (initOf (top 2))) (defScope (initOf (top 2))) .none kV_NoPlace dc_NoPlace pm_NoPlace an_NoPlace cd_NoPlace ct_NoPlace), sl_NoPlace⟩)
    (c1_NoPlace : PySem.W.codeIn K cd_NoPlace "NoPlace.__init__" = true)
    (k1_NoPlace : PySem.W.keepIn K (.ref f_NoPlace) = true)
    (kC_NoPlace : PySem.W.keepIn K (.ref C_NoPlace) = true)
    (eC_NoPlace : PySem.W.subIn K (.ref C_NoPlace) (.type "BaseException") = some true)
    (tC_NoPlace : PySem.W.typeIn K (.ref C_NoPlace) = some (.type "type"))
    (hC_NoPlace : PySem.W.hasDictIn K C_NoPlace = true)
    (fl_NoPlace : flB K C_NoPlace = true)
    (ak_NoPlace : askB K C_NoPlace "NoPlace" = true)
    (ow_NoPlace : ownB K C_NoPlace "NoPlace" = true)
    (aC_NoNumber : PySem.W.nsIn K mainGlobals "NoNumber" = some (some (.ref C_NoNumber)))
    (xL_NoNumber : K.lookup C_NoNumber = some (excClassObj nm_NoNumber "NoNumber" C_NoNumber N_NoNumber bs_NoNumber bmLookup true sn_NoNumber sub_NoNumber ab_NoNumber col_NoNumber dd_NoNumber m0_NoNumber m1_NoNumber m2_NoNumber m3_NoNumber m5_NoNumber "LookupError.__new__"))
    (sa_NoNumber : PySem.W.findIn K (.ref C_NoNumber) "__setattr__" = some (some (.builtin "object.__setattr__")))
    (ga_NoNumber : PySem.W.findIn K (.ref C_NoNumber) "__getattribute__" = some (some (.builtin "BaseException.__getattribute__")))
    (gg_NoNumber : PySem.W.findIn K (.ref C_NoNumber) "__getattr__" = some none)
    (gc_NoNumber : PySem.W.findIn K (.ref C_NoNumber) "__class__" = some (some (.builtin "object.__class__")))
    (sg_NoNumber : PySem.W.specialIn K (.builtin "object.__class__") "__get__" = some (some (.builtin "getset_descriptor.__get__")))
    (tg_NoNumber : PySem.W.takesIn K (.builtin "object.__class__") = some true)
    (mo_NoNumber : PySem.W.mroIn K C_NoNumber (.type "object") = some true)
    (i1_NoNumber : PySem.W.findIn K (.ref C_NoNumber) "__init__" = some (some (.ref f_NoNumber)))
    (t1_NoNumber : PySem.W.typeIn K (.ref f_NoNumber) = some (.type "function"))
    (l1_NoNumber : K.lookup f_NoNumber = some ⟨oc_NoNumber, od_NoNumber, .func (PySem.W.fnOf "__init__" "NoNumber.__init__" (defArgs (initOf (top 3))) (defBody (initOf (top 3))) (defScope (initOf (top 3))) .none kV_NoNumber dc_NoNumber pm_NoNumber an_NoNumber cd_NoNumber ct_NoNumber), sl_NoNumber⟩)
    (c1_NoNumber : PySem.W.codeIn K cd_NoNumber "NoNumber.__init__" = true)
    (k1_NoNumber : PySem.W.keepIn K (.ref f_NoNumber) = true)
    (kC_NoNumber : PySem.W.keepIn K (.ref C_NoNumber) = true)
    (eC_NoNumber : PySem.W.subIn K (.ref C_NoNumber) (.type "BaseException") = some true)
    (tC_NoNumber : PySem.W.typeIn K (.ref C_NoNumber) = some (.type "type"))
    (hC_NoNumber : PySem.W.hasDictIn K C_NoNumber = true)
    (fl_NoNumber : flB K C_NoNumber = true)
    (ak_NoNumber : askB K C_NoNumber "NoNumber" = true)
    (ow_NoNumber : ownB K C_NoNumber "NoNumber" = true)
    (aC_NoDeed : PySem.W.nsIn K mainGlobals "NoDeed" = some (some (.ref C_NoDeed)))
    (xL_NoDeed : K.lookup C_NoDeed = some (excClassObj nm_NoDeed "NoDeed" C_NoDeed N_NoDeed bs_NoDeed bmLookup true sn_NoDeed sub_NoDeed ab_NoDeed col_NoDeed dd_NoDeed m0_NoDeed m1_NoDeed m2_NoDeed m3_NoDeed m5_NoDeed "LookupError.__new__"))
    (sa_NoDeed : PySem.W.findIn K (.ref C_NoDeed) "__setattr__" = some (some (.builtin "object.__setattr__")))
    (ga_NoDeed : PySem.W.findIn K (.ref C_NoDeed) "__getattribute__" = some (some (.builtin "BaseException.__getattribute__")))
    (gg_NoDeed : PySem.W.findIn K (.ref C_NoDeed) "__getattr__" = some none)
    (gc_NoDeed : PySem.W.findIn K (.ref C_NoDeed) "__class__" = some (some (.builtin "object.__class__")))
    (sg_NoDeed : PySem.W.specialIn K (.builtin "object.__class__") "__get__" = some (some (.builtin "getset_descriptor.__get__")))
    (tg_NoDeed : PySem.W.takesIn K (.builtin "object.__class__") = some true)
    (mo_NoDeed : PySem.W.mroIn K C_NoDeed (.type "object") = some true)
    (i1_NoDeed : PySem.W.findIn K (.ref C_NoDeed) "__init__" = some (some (.ref f_NoDeed)))
    (t1_NoDeed : PySem.W.typeIn K (.ref f_NoDeed) = some (.type "function"))
    (l1_NoDeed : K.lookup f_NoDeed = some ⟨oc_NoDeed, od_NoDeed, .func (PySem.W.fnOf "__init__" "NoDeed.__init__" (defArgs (initOf (top 4))) (defBody (initOf (top 4))) (defScope (initOf (top 4))) .none kV_NoDeed dc_NoDeed pm_NoDeed an_NoDeed cd_NoDeed ct_NoDeed), sl_NoDeed⟩)
    (c1_NoDeed : PySem.W.codeIn K cd_NoDeed "NoDeed.__init__" = true)
    (k1_NoDeed : PySem.W.keepIn K (.ref f_NoDeed) = true)
    (kC_NoDeed : PySem.W.keepIn K (.ref C_NoDeed) = true)
    (eC_NoDeed : PySem.W.subIn K (.ref C_NoDeed) (.type "BaseException") = some true)
    (tC_NoDeed : PySem.W.typeIn K (.ref C_NoDeed) = some (.type "type"))
    (hC_NoDeed : PySem.W.hasDictIn K C_NoDeed = true)
    (fl_NoDeed : flB K C_NoDeed = true)
    (ak_NoDeed : askB K C_NoDeed "NoDeed" = true)
    (ow_NoDeed : ownB K C_NoDeed "NoDeed" = true)
    (aC_NoCut : PySem.W.nsIn K mainGlobals "NoCut" = some (some (.ref C_NoCut)))
    (xL_NoCut : K.lookup C_NoCut = some (excClassObj nm_NoCut "NoCut" C_NoCut N_NoCut bs_NoCut bmValue true sn_NoCut sub_NoCut ab_NoCut col_NoCut dd_NoCut m0_NoCut m1_NoCut m2_NoCut m3_NoCut m5_NoCut "ValueError.__new__"))
    (sa_NoCut : PySem.W.findIn K (.ref C_NoCut) "__setattr__" = some (some (.builtin "object.__setattr__")))
    (ga_NoCut : PySem.W.findIn K (.ref C_NoCut) "__getattribute__" = some (some (.builtin "BaseException.__getattribute__")))
    (gg_NoCut : PySem.W.findIn K (.ref C_NoCut) "__getattr__" = some none)
    (gc_NoCut : PySem.W.findIn K (.ref C_NoCut) "__class__" = some (some (.builtin "object.__class__")))
    (sg_NoCut : PySem.W.specialIn K (.builtin "object.__class__") "__get__" = some (some (.builtin "getset_descriptor.__get__")))
    (tg_NoCut : PySem.W.takesIn K (.builtin "object.__class__") = some true)
    (mo_NoCut : PySem.W.mroIn K C_NoCut (.type "object") = some true)
    (i1_NoCut : PySem.W.findIn K (.ref C_NoCut) "__init__" = some (some (.ref f_NoCut)))
    (t1_NoCut : PySem.W.typeIn K (.ref f_NoCut) = some (.type "function"))
    (l1_NoCut : K.lookup f_NoCut = some ⟨oc_NoCut, od_NoCut, .func (PySem.W.fnOf "__init__" "NoCut.__init__" (defArgs (initOf (top 5))) (defBody (initOf (top 5))) (defScope (initOf (top 5))) .none kV_NoCut dc_NoCut pm_NoCut an_NoCut cd_NoCut ct_NoCut), sl_NoCut⟩)
    (c1_NoCut : PySem.W.codeIn K cd_NoCut "NoCut.__init__" = true)
    (k1_NoCut : PySem.W.keepIn K (.ref f_NoCut) = true)
    (kC_NoCut : PySem.W.keepIn K (.ref C_NoCut) = true)
    (eC_NoCut : PySem.W.subIn K (.ref C_NoCut) (.type "BaseException") = some true)
    (tC_NoCut : PySem.W.typeIn K (.ref C_NoCut) = some (.type "type"))
    (hC_NoCut : PySem.W.hasDictIn K C_NoCut = true)
    (fl_NoCut : flB K C_NoCut = true)
    (ak_NoCut : askB K C_NoCut "NoCut" = true)
    (ow_NoCut : ownB K C_NoCut "NoCut" = true)
    (aC_NoHeap : PySem.W.nsIn K mainGlobals "NoHeap" = some (some (.ref C_NoHeap)))
    (xL_NoHeap : K.lookup C_NoHeap = some (excClassObj nm_NoHeap "NoHeap" C_NoHeap N_NoHeap bs_NoHeap bmValue true sn_NoHeap sub_NoHeap ab_NoHeap col_NoHeap dd_NoHeap m0_NoHeap m1_NoHeap m2_NoHeap m3_NoHeap m5_NoHeap "ValueError.__new__"))
    (sa_NoHeap : PySem.W.findIn K (.ref C_NoHeap) "__setattr__" = some (some (.builtin "object.__setattr__")))
    (ga_NoHeap : PySem.W.findIn K (.ref C_NoHeap) "__getattribute__" = some (some (.builtin "BaseException.__getattribute__")))
    (gg_NoHeap : PySem.W.findIn K (.ref C_NoHeap) "__getattr__" = some none)
    (gc_NoHeap : PySem.W.findIn K (.ref C_NoHeap) "__class__" = some (some (.builtin "object.__class__")))
    (sg_NoHeap : PySem.W.specialIn K (.builtin "object.__class__") "__get__" = some (some (.builtin "getset_descriptor.__get__")))
    (tg_NoHeap : PySem.W.takesIn K (.builtin "object.__class__") = some true)
    (mo_NoHeap : PySem.W.mroIn K C_NoHeap (.type "object") = some true)
    (i1_NoHeap : PySem.W.findIn K (.ref C_NoHeap) "__init__" = some (some (.ref f_NoHeap)))
    (t1_NoHeap : PySem.W.typeIn K (.ref f_NoHeap) = some (.type "function"))
    (l1_NoHeap : K.lookup f_NoHeap = some ⟨oc_NoHeap, od_NoHeap, .func (PySem.W.fnOf "__init__" "NoHeap.__init__" (defArgs (initOf (top 6))) (defBody (initOf (top 6))) (defScope (initOf (top 6))) .none kV_NoHeap dc_NoHeap pm_NoHeap an_NoHeap cd_NoHeap ct_NoHeap), sl_NoHeap⟩)
    (c1_NoHeap : PySem.W.codeIn K cd_NoHeap "NoHeap.__init__" = true)
    (k1_NoHeap : PySem.W.keepIn K (.ref f_NoHeap) = true)
    (kC_NoHeap : PySem.W.keepIn K (.ref C_NoHeap) = true)
    (eC_NoHeap : PySem.W.subIn K (.ref C_NoHeap) (.type "BaseException") = some true)
    (tC_NoHeap : PySem.W.typeIn K (.ref C_NoHeap) = some (.type "type"))
    (hC_NoHeap : PySem.W.hasDictIn K C_NoHeap = true)
    (fl_NoHeap : flB K C_NoHeap = true)
    (ak_NoHeap : askB K C_NoHeap "NoHeap" = true)
    (ow_NoHeap : ownB K C_NoHeap "NoHeap" = true)
    (aC_Clash : PySem.W.nsIn K mainGlobals "Clash" = some (some (.ref C_Clash)))
    (xL_Clash : K.lookup C_Clash = some (excClassObj nm_Clash "Clash" C_Clash N_Clash bs_Clash bmValue true sn_Clash sub_Clash ab_Clash col_Clash dd_Clash m0_Clash m1_Clash m2_Clash m3_Clash m5_Clash "ValueError.__new__"))
    (sa_Clash : PySem.W.findIn K (.ref C_Clash) "__setattr__" = some (some (.builtin "object.__setattr__")))
    (ga_Clash : PySem.W.findIn K (.ref C_Clash) "__getattribute__" = some (some (.builtin "BaseException.__getattribute__")))
    (gg_Clash : PySem.W.findIn K (.ref C_Clash) "__getattr__" = some none)
    (gc_Clash : PySem.W.findIn K (.ref C_Clash) "__class__" = some (some (.builtin "object.__class__")))
    (sg_Clash : PySem.W.specialIn K (.builtin "object.__class__") "__get__" = some (some (.builtin "getset_descriptor.__get__")))
    (tg_Clash : PySem.W.takesIn K (.builtin "object.__class__") = some true)
    (mo_Clash : PySem.W.mroIn K C_Clash (.type "object") = some true)
    (i1_Clash : PySem.W.findIn K (.ref C_Clash) "__init__" = some (some (.ref f_Clash)))
    (t1_Clash : PySem.W.typeIn K (.ref f_Clash) = some (.type "function"))
    (l1_Clash : K.lookup f_Clash = some ⟨oc_Clash, od_Clash, .func (PySem.W.fnOf "__init__" "Clash.__init__" (defArgs (initOf (top 7))) (defBody (initOf (top 7))) (defScope (initOf (top 7))) .none kV_Clash dc_Clash pm_Clash an_Clash cd_Clash ct_Clash), sl_Clash⟩)
    (c1_Clash : PySem.W.codeIn K cd_Clash "Clash.__init__" = true)
    (k1_Clash : PySem.W.keepIn K (.ref f_Clash) = true)
    (kC_Clash : PySem.W.keepIn K (.ref C_Clash) = true)
    (eC_Clash : PySem.W.subIn K (.ref C_Clash) (.type "BaseException") = some true)
    (tC_Clash : PySem.W.typeIn K (.ref C_Clash) = some (.type "type"))
    (hC_Clash : PySem.W.hasDictIn K C_Clash = true)
    (fl_Clash : flB K C_Clash = true)
    (ak_Clash : askB K C_Clash "Clash" = true)
    (ow_Clash : ownB K C_Clash "Clash" = true)
    (aC_Strange : PySem.W.nsIn K mainGlobals "Strange" = some (some (.ref C_Strange)))
    (xL_Strange : K.lookup C_Strange = some (excClassObj nm_Strange "Strange" C_Strange N_Strange bs_Strange bmValue true sn_Strange sub_Strange ab_Strange col_Strange dd_Strange m0_Strange m1_Strange m2_Strange m3_Strange m5_Strange "ValueError.__new__"))
    (sa_Strange : PySem.W.findIn K (.ref C_Strange) "__setattr__" = some (some (.builtin "object.__setattr__")))
    (ga_Strange : PySem.W.findIn K (.ref C_Strange) "__getattribute__" = some (some (.builtin "BaseException.__getattribute__")))
    (gg_Strange : PySem.W.findIn K (.ref C_Strange) "__getattr__" = some none)
    (gc_Strange : PySem.W.findIn K (.ref C_Strange) "__class__" = some (some (.builtin "object.__class__")))
    (sg_Strange : PySem.W.specialIn K (.builtin "object.__class__") "__get__" = some (some (.builtin "getset_descriptor.__get__")))
    (tg_Strange : PySem.W.takesIn K (.builtin "object.__class__") = some true)
    (mo_Strange : PySem.W.mroIn K C_Strange (.type "object") = some true)
    (i1_Strange : PySem.W.findIn K (.ref C_Strange) "__init__" = some (some (.ref f_Strange)))
    (t1_Strange : PySem.W.typeIn K (.ref f_Strange) = some (.type "function"))
    (l1_Strange : K.lookup f_Strange = some ⟨oc_Strange, od_Strange, .func (PySem.W.fnOf "__init__" "Strange.__init__" (defArgs (initOf (top 8))) (defBody (initOf (top 8))) (defScope (initOf (top 8))) .none kV_Strange dc_Strange pm_Strange an_Strange cd_Strange ct_Strange), sl_Strange⟩)
    (c1_Strange : PySem.W.codeIn K cd_Strange "Strange.__init__" = true)
    (k1_Strange : PySem.W.keepIn K (.ref f_Strange) = true)
    (kC_Strange : PySem.W.keepIn K (.ref C_Strange) = true)
    (eC_Strange : PySem.W.subIn K (.ref C_Strange) (.type "BaseException") = some true)
    (tC_Strange : PySem.W.typeIn K (.ref C_Strange) = some (.type "type"))
    (hC_Strange : PySem.W.hasDictIn K C_Strange = true)
    (fl_Strange : flB K C_Strange = true)
    (ak_Strange : askB K C_Strange "Strange" = true)
    (ow_Strange : ownB K C_Strange "Strange" = true)
    (aC_BadDeed : PySem.W.nsIn K mainGlobals "BadDeed" = some (some (.ref C_BadDeed)))
    (xL_BadDeed : K.lookup C_BadDeed = some (excClassObj nm_BadDeed "BadDeed" C_BadDeed N_BadDeed bs_BadDeed bmValue true sn_BadDeed sub_BadDeed ab_BadDeed col_BadDeed dd_BadDeed m0_BadDeed m1_BadDeed m2_BadDeed m3_BadDeed m5_BadDeed "ValueError.__new__"))
    (sa_BadDeed : PySem.W.findIn K (.ref C_BadDeed) "__setattr__" = some (some (.builtin "object.__setattr__")))
    (ga_BadDeed : PySem.W.findIn K (.ref C_BadDeed) "__getattribute__" = some (some (.builtin "BaseException.__getattribute__")))
    (gg_BadDeed : PySem.W.findIn K (.ref C_BadDeed) "__getattr__" = some none)
    (gc_BadDeed : PySem.W.findIn K (.ref C_BadDeed) "__class__" = some (some (.builtin "object.__class__")))
    (sg_BadDeed : PySem.W.specialIn K (.builtin "object.__class__") "__get__" = some (some (.builtin "getset_descriptor.__get__")))
    (tg_BadDeed : PySem.W.takesIn K (.builtin "object.__class__") = some true)
    (mo_BadDeed : PySem.W.mroIn K C_BadDeed (.type "object") = some true)
    (i1_BadDeed : PySem.W.findIn K (.ref C_BadDeed) "__init__" = some (some (.ref f_BadDeed)))
    (t1_BadDeed : PySem.W.typeIn K (.ref f_BadDeed) = some (.type "function"))
    (l1_BadDeed : K.lookup f_BadDeed = some ⟨oc_BadDeed, od_BadDeed, .func (PySem.W.fnOf "__init__" "BadDeed.__init__" (defArgs (initOf (top 9))) (defBody (initOf (top 9))) (defScope (initOf (top 9))) .none kV_BadDeed dc_BadDeed pm_BadDeed an_BadDeed cd_BadDeed ct_BadDeed), sl_BadDeed⟩)
    (c1_BadDeed : PySem.W.codeIn K cd_BadDeed "BadDeed.__init__" = true)
    (k1_BadDeed : PySem.W.keepIn K (.ref f_BadDeed) = true)
    (kC_BadDeed : PySem.W.keepIn K (.ref C_BadDeed) = true)
    (eC_BadDeed : PySem.W.subIn K (.ref C_BadDeed) (.type "BaseException") = some true)
    (tC_BadDeed : PySem.W.typeIn K (.ref C_BadDeed) = some (.type "type"))
    (hC_BadDeed : PySem.W.hasDictIn K C_BadDeed = true)
    (fl_BadDeed : flB K C_BadDeed = true)
    (ak_BadDeed : askB K C_BadDeed "BadDeed" = true)
    (ow_BadDeed : ownB K C_BadDeed "BadDeed" = true)
    (aC_BadText : PySem.W.nsIn K mainGlobals "BadText" = some (some (.ref C_BadText)))
    (xL_BadText : K.lookup C_BadText = some (excClassObj nm_BadText "BadText" C_BadText N_BadText bs_BadText bmValue true sn_BadText sub_BadText ab_BadText col_BadText dd_BadText m0_BadText m1_BadText m2_BadText m3_BadText m5_BadText "ValueError.__new__"))
    (sa_BadText : PySem.W.findIn K (.ref C_BadText) "__setattr__" = some (some (.builtin "object.__setattr__")))
    (ga_BadText : PySem.W.findIn K (.ref C_BadText) "__getattribute__" = some (some (.builtin "BaseException.__getattribute__")))
    (gg_BadText : PySem.W.findIn K (.ref C_BadText) "__getattr__" = some none)
    (gc_BadText : PySem.W.findIn K (.ref C_BadText) "__class__" = some (some (.builtin "object.__class__")))
    (sg_BadText : PySem.W.specialIn K (.builtin "object.__class__") "__get__" = some (some (.builtin "getset_descriptor.__get__")))
    (tg_BadText : PySem.W.takesIn K (.builtin "object.__class__") = some true)
    (mo_BadText : PySem.W.mroIn K C_BadText (.type "object") = some true)
    (i1_BadText : PySem.W.findIn K (.ref C_BadText) "__init__" = some (some (.ref f_BadText)))
    (t1_BadText : PySem.W.typeIn K (.ref f_BadText) = some (.type "function"))
    (l1_BadText : K.lookup f_BadText = some ⟨oc_BadText, od_BadText, .func (PySem.W.fnOf "__init__" "BadText.__init__" (defArgs (initOf (top 10))) (defBody (initOf (top 10))) (defScope (initOf (top 10))) .none kV_BadText dc_BadText pm_BadText an_BadText cd_BadText ct_BadText), sl_BadText⟩)
    (c1_BadText : PySem.W.codeIn K cd_BadText "BadText.__init__" = true)
    (k1_BadText : PySem.W.keepIn K (.ref f_BadText) = true)
    (kC_BadText : PySem.W.keepIn K (.ref C_BadText) = true)
    (eC_BadText : PySem.W.subIn K (.ref C_BadText) (.type "BaseException") = some true)
    (tC_BadText : PySem.W.typeIn K (.ref C_BadText) = some (.type "type"))
    (hC_BadText : PySem.W.hasDictIn K C_BadText = true)
    (fl_BadText : flB K C_BadText = true)
    (ak_BadText : askB K C_BadText "BadText" = true)
    (ow_BadText : ownB K C_BadText "BadText" = true)
    (aC_BadLine : PySem.W.nsIn K mainGlobals "BadLine" = some (some (.ref C_BadLine)))
    (xL_BadLine : K.lookup C_BadLine = some (excClassObj nm_BadLine "BadLine" C_BadLine N_BadLine bs_BadLine bmValue true sn_BadLine sub_BadLine ab_BadLine col_BadLine dd_BadLine m0_BadLine m1_BadLine m2_BadLine m3_BadLine m5_BadLine "ValueError.__new__"))
    (sa_BadLine : PySem.W.findIn K (.ref C_BadLine) "__setattr__" = some (some (.builtin "object.__setattr__")))
    (ga_BadLine : PySem.W.findIn K (.ref C_BadLine) "__getattribute__" = some (some (.builtin "BaseException.__getattribute__")))
    (gg_BadLine : PySem.W.findIn K (.ref C_BadLine) "__getattr__" = some none)
    (gc_BadLine : PySem.W.findIn K (.ref C_BadLine) "__class__" = some (some (.builtin "object.__class__")))
    (sg_BadLine : PySem.W.specialIn K (.builtin "object.__class__") "__get__" = some (some (.builtin "getset_descriptor.__get__")))
    (tg_BadLine : PySem.W.takesIn K (.builtin "object.__class__") = some true)
    (mo_BadLine : PySem.W.mroIn K C_BadLine (.type "object") = some true)
    (i1_BadLine : PySem.W.findIn K (.ref C_BadLine) "__init__" = some (some (.ref f_BadLine)))
    (t1_BadLine : PySem.W.typeIn K (.ref f_BadLine) = some (.type "function"))
    (l1_BadLine : K.lookup f_BadLine = some ⟨oc_BadLine, od_BadLine, .func (PySem.W.fnOf "__init__" "BadLine.__init__" (defArgs (initOf (top 11))) (defBody (initOf (top 11))) (defScope (initOf (top 11))) .none kV_BadLine dc_BadLine pm_BadLine an_BadLine cd_BadLine ct_BadLine), sl_BadLine⟩)
    (c1_BadLine : PySem.W.codeIn K cd_BadLine "BadLine.__init__" = true)
    (k1_BadLine : PySem.W.keepIn K (.ref f_BadLine) = true)
    (kC_BadLine : PySem.W.keepIn K (.ref C_BadLine) = true)
    (eC_BadLine : PySem.W.subIn K (.ref C_BadLine) (.type "BaseException") = some true)
    (tC_BadLine : PySem.W.typeIn K (.ref C_BadLine) = some (.type "type"))
    (hC_BadLine : PySem.W.hasDictIn K C_BadLine = true)
    (fl_BadLine : flB K C_BadLine = true)
    (ak_BadLine : askB K C_BadLine "BadLine" = true)
    (ow_BadLine : ownB K C_BadLine "BadLine" = true)
    (aC_Unlike : PySem.W.nsIn K mainGlobals "Unlike" = some (some (.ref C_Unlike)))
    (xL_Unlike : K.lookup C_Unlike = some (excClassObj nm_Unlike "Unlike" C_Unlike N_Unlike bs_Unlike bmRuntime true sn_Unlike sub_Unlike ab_Unlike col_Unlike dd_Unlike m0_Unlike m1_Unlike m2_Unlike m3_Unlike m5_Unlike "RuntimeError.__new__"))
    (sa_Unlike : PySem.W.findIn K (.ref C_Unlike) "__setattr__" = some (some (.builtin "object.__setattr__")))
    (ga_Unlike : PySem.W.findIn K (.ref C_Unlike) "__getattribute__" = some (some (.builtin "BaseException.__getattribute__")))
    (gg_Unlike : PySem.W.findIn K (.ref C_Unlike) "__getattr__" = some none)
    (gc_Unlike : PySem.W.findIn K (.ref C_Unlike) "__class__" = some (some (.builtin "object.__class__")))
    (sg_Unlike : PySem.W.specialIn K (.builtin "object.__class__") "__get__" = some (some (.builtin "getset_descriptor.__get__")))
    (tg_Unlike : PySem.W.takesIn K (.builtin "object.__class__") = some true)
    (mo_Unlike : PySem.W.mroIn K C_Unlike (.type "object") = some true)
    (i1_Unlike : PySem.W.findIn K (.ref C_Unlike) "__init__" = some (some (.ref f_Unlike)))
    (t1_Unlike : PySem.W.typeIn K (.ref f_Unlike) = some (.type "function"))
    (l1_Unlike : K.lookup f_Unlike = some ⟨oc_Unlike, od_Unlike, .func (PySem.W.fnOf "__init__" "Unlike.__init__" (defArgs (initOf (top 12))) (defBody (initOf (top 12))) (defScope (initOf (top 12))) .none kV_Unlike dc_Unlike pm_Unlike an_Unlike cd_Unlike ct_Unlike), sl_Unlike⟩)
    (c1_Unlike : PySem.W.codeIn K cd_Unlike "Unlike.__init__" = true)
    (k1_Unlike : PySem.W.keepIn K (.ref f_Unlike) = true)
    (kC_Unlike : PySem.W.keepIn K (.ref C_Unlike) = true)
    (eC_Unlike : PySem.W.subIn K (.ref C_Unlike) (.type "BaseException") = some true)
    (tC_Unlike : PySem.W.typeIn K (.ref C_Unlike) = some (.type "type"))
    (hC_Unlike : PySem.W.hasDictIn K C_Unlike = true)
    (fl_Unlike : flB K C_Unlike = true)
    (ak_Unlike : askB K C_Unlike "Unlike" = true)
    (ow_Unlike : ownB K C_Unlike "Unlike" = true)
    (aC_Odd : PySem.W.nsIn K mainGlobals "Odd" = some (some (.ref C_Odd)))
    (xL_Odd : K.lookup C_Odd = some (excClassObj nm_Odd "Odd" C_Odd N_Odd bs_Odd bmRuntime true sn_Odd sub_Odd ab_Odd col_Odd dd_Odd m0_Odd m1_Odd m2_Odd m3_Odd m5_Odd "RuntimeError.__new__"))
    (sa_Odd : PySem.W.findIn K (.ref C_Odd) "__setattr__" = some (some (.builtin "object.__setattr__")))
    (ga_Odd : PySem.W.findIn K (.ref C_Odd) "__getattribute__" = some (some (.builtin "BaseException.__getattribute__")))
    (gg_Odd : PySem.W.findIn K (.ref C_Odd) "__getattr__" = some none)
    (gc_Odd : PySem.W.findIn K (.ref C_Odd) "__class__" = some (some (.builtin "object.__class__")))
    (sg_Odd : PySem.W.specialIn K (.builtin "object.__class__") "__get__" = some (some (.builtin "getset_descriptor.__get__")))
    (tg_Odd : PySem.W.takesIn K (.builtin "object.__class__") = some true)
    (mo_Odd : PySem.W.mroIn K C_Odd (.type "object") = some true)
    (i1_Odd : PySem.W.findIn K (.ref C_Odd) "__init__" = some (some (.ref f_Odd)))
    (t1_Odd : PySem.W.typeIn K (.ref f_Odd) = some (.type "function"))
    (l1_Odd : K.lookup f_Odd = some ⟨oc_Odd, od_Odd, .func (PySem.W.fnOf "__init__" "Odd.__init__" (defArgs (initOf (top 13))) (defBody (initOf (top 13))) (defScope (initOf (top 13))) .none kV_Odd dc_Odd pm_Odd an_Odd cd_Odd ct_Odd), sl_Odd⟩)
    (c1_Odd : PySem.W.codeIn K cd_Odd "Odd.__init__" = true)
    (k1_Odd : PySem.W.keepIn K (.ref f_Odd) = true)
    (kC_Odd : PySem.W.keepIn K (.ref C_Odd) = true)
    (eC_Odd : PySem.W.subIn K (.ref C_Odd) (.type "BaseException") = some true)
    (tC_Odd : PySem.W.typeIn K (.ref C_Odd) = some (.type "type"))
    (hC_Odd : PySem.W.hasDictIn K C_Odd = true)
    (fl_Odd : flB K C_Odd = true)
    (ak_Odd : askB K C_Odd "Odd" = true)
    (ow_Odd : ownB K C_Odd "Odd" = true)
    (aC_Barred : PySem.W.nsIn K mainGlobals "Barred" = some (some (.ref C_Barred)))
    (xL_Barred : K.lookup C_Barred = some (excClassObj nm_Barred "Barred" C_Barred N_Barred bs_Barred bmRuntime true sn_Barred sub_Barred ab_Barred col_Barred dd_Barred m0_Barred m1_Barred m2_Barred m3_Barred m5_Barred "RuntimeError.__new__"))
    (sa_Barred : PySem.W.findIn K (.ref C_Barred) "__setattr__" = some (some (.builtin "object.__setattr__")))
    (ga_Barred : PySem.W.findIn K (.ref C_Barred) "__getattribute__" = some (some (.builtin "BaseException.__getattribute__")))
    (gg_Barred : PySem.W.findIn K (.ref C_Barred) "__getattr__" = some none)
    (gc_Barred : PySem.W.findIn K (.ref C_Barred) "__class__" = some (some (.builtin "object.__class__")))
    (sg_Barred : PySem.W.specialIn K (.builtin "object.__class__") "__get__" = some (some (.builtin "getset_descriptor.__get__")))
    (tg_Barred : PySem.W.takesIn K (.builtin "object.__class__") = some true)
    (mo_Barred : PySem.W.mroIn K C_Barred (.type "object") = some true)
    (i1_Barred : PySem.W.findIn K (.ref C_Barred) "__init__" = some (some (.ref f_Barred)))
    (t1_Barred : PySem.W.typeIn K (.ref f_Barred) = some (.type "function"))
    (l1_Barred : K.lookup f_Barred = some ⟨oc_Barred, od_Barred, .func (PySem.W.fnOf "__init__" "Barred.__init__" (defArgs (initOf (top 14))) (defBody (initOf (top 14))) (defScope (initOf (top 14))) .none kV_Barred dc_Barred pm_Barred an_Barred cd_Barred ct_Barred), sl_Barred⟩)
    (c1_Barred : PySem.W.codeIn K cd_Barred "Barred.__init__" = true)
    (k1_Barred : PySem.W.keepIn K (.ref f_Barred) = true)
    (kC_Barred : PySem.W.keepIn K (.ref C_Barred) = true)
    (eC_Barred : PySem.W.subIn K (.ref C_Barred) (.type "BaseException") = some true)
    (tC_Barred : PySem.W.typeIn K (.ref C_Barred) = some (.type "type"))
    (hC_Barred : PySem.W.hasDictIn K C_Barred = true)
    (fl_Barred : flB K C_Barred = true)
    (ak_Barred : askB K C_Barred "Barred" = true)
    (ow_Barred : ownB K C_Barred "Barred" = true)
    (aC_TooMany : PySem.W.nsIn K mainGlobals "TooMany" = some (some (.ref C_TooMany)))
    (xL_TooMany : K.lookup C_TooMany = some (excClassObj nm_TooMany "TooMany" C_TooMany N_TooMany bs_TooMany bmOverflow true sn_TooMany sub_TooMany ab_TooMany col_TooMany dd_TooMany m0_TooMany m1_TooMany m2_TooMany m3_TooMany m5_TooMany "OverflowError.__new__"))
    (sa_TooMany : PySem.W.findIn K (.ref C_TooMany) "__setattr__" = some (some (.builtin "object.__setattr__")))
    (ga_TooMany : PySem.W.findIn K (.ref C_TooMany) "__getattribute__" = some (some (.builtin "BaseException.__getattribute__")))
    (gg_TooMany : PySem.W.findIn K (.ref C_TooMany) "__getattr__" = some none)
    (gc_TooMany : PySem.W.findIn K (.ref C_TooMany) "__class__" = some (some (.builtin "object.__class__")))
    (sg_TooMany : PySem.W.specialIn K (.builtin "object.__class__") "__get__" = some (some (.builtin "getset_descriptor.__get__")))
    (tg_TooMany : PySem.W.takesIn K (.builtin "object.__class__") = some true)
    (mo_TooMany : PySem.W.mroIn K C_TooMany (.type "object") = some true)
    (i1_TooMany : PySem.W.findIn K (.ref C_TooMany) "__init__" = some (some (.ref f_TooMany)))
    (t1_TooMany : PySem.W.typeIn K (.ref f_TooMany) = some (.type "function"))
    (l1_TooMany : K.lookup f_TooMany = some ⟨oc_TooMany, od_TooMany, .func (PySem.W.fnOf "__init__" "TooMany.__init__" (defArgs (initOf (top 15))) (defBody (initOf (top 15))) (defScope (initOf (top 15))) .none kV_TooMany dc_TooMany pm_TooMany an_TooMany cd_TooMany ct_TooMany), sl_TooMany⟩)
    (c1_TooMany : PySem.W.codeIn K cd_TooMany "TooMany.__init__" = true)
    (k1_TooMany : PySem.W.keepIn K (.ref f_TooMany) = true)
    (kC_TooMany : PySem.W.keepIn K (.ref C_TooMany) = true)
    (eC_TooMany : PySem.W.subIn K (.ref C_TooMany) (.type "BaseException") = some true)
    (tC_TooMany : PySem.W.typeIn K (.ref C_TooMany) = some (.type "type"))
    (hC_TooMany : PySem.W.hasDictIn K C_TooMany = true)
    (fl_TooMany : flB K C_TooMany = true)
    (ak_TooMany : askB K C_TooMany "TooMany" = true)
    (ow_TooMany : ownB K C_TooMany "TooMany" = true)
    (aC_Full : PySem.W.nsIn K mainGlobals "Full" = some (some (.ref C_Full)))
    (xL_Full : K.lookup C_Full = some (excClassObj nm_Full "Full" C_Full N_Full bs_Full bmOverflow true sn_Full sub_Full ab_Full col_Full dd_Full m0_Full m1_Full m2_Full m3_Full m5_Full "OverflowError.__new__"))
    (sa_Full : PySem.W.findIn K (.ref C_Full) "__setattr__" = some (some (.builtin "object.__setattr__")))
    (ga_Full : PySem.W.findIn K (.ref C_Full) "__getattribute__" = some (some (.builtin "BaseException.__getattribute__")))
    (gg_Full : PySem.W.findIn K (.ref C_Full) "__getattr__" = some none)
    (gc_Full : PySem.W.findIn K (.ref C_Full) "__class__" = some (some (.builtin "object.__class__")))
    (sg_Full : PySem.W.specialIn K (.builtin "object.__class__") "__get__" = some (some (.builtin "getset_descriptor.__get__")))
    (tg_Full : PySem.W.takesIn K (.builtin "object.__class__") = some true)
    (mo_Full : PySem.W.mroIn K C_Full (.type "object") = some true)
    (i1_Full : PySem.W.findIn K (.ref C_Full) "__init__" = some (some (.ref f_Full)))
    (t1_Full : PySem.W.typeIn K (.ref f_Full) = some (.type "function"))
    (l1_Full : K.lookup f_Full = some ⟨oc_Full, od_Full, .func (PySem.W.fnOf "__init__" "Full.__init__" (defArgs (initOf (top 16))) (defBody (initOf (top 16))) (defScope (initOf (top 16))) .none kV_Full dc_Full pm_Full an_Full cd_Full ct_Full), sl_Full⟩)
    (c1_Full : PySem.W.codeIn K cd_Full "Full.__init__" = true)
    (k1_Full : PySem.W.keepIn K (.ref f_Full) = true)
    (kC_Full : PySem.W.keepIn K (.ref C_Full) = true)
    (eC_Full : PySem.W.subIn K (.ref C_Full) (.type "BaseException") = some true)
    (tC_Full : PySem.W.typeIn K (.ref C_Full) = some (.type "type"))
    (hC_Full : PySem.W.hasDictIn K C_Full = true)
    (fl_Full : flB K C_Full = true)
    (ak_Full : askB K C_Full "Full" = true)
    (ow_Full : ownB K C_Full "Full" = true)
    (bC_NoStone : PySem.W.nsIn K mainGlobals "NoStone" = some (some (.ref S_NoStone)))
    (bn_NoStone : clsNm K S_NoStone = some "NoStone")
    (bt_NoStone : PySem.W.typeIn K (.ref S_NoStone) = some (.type "type"))
    (be_NoStone : PySem.W.subIn K (.ref S_NoStone) (.type "BaseException") = some true)
    (bp_NoStone : plB K S_NoStone = true)
    (bC_NoPlace : PySem.W.nsIn K mainGlobals "NoPlace" = some (some (.ref S_NoPlace)))
    (bn_NoPlace : clsNm K S_NoPlace = some "NoPlace")
    (bt_NoPlace : PySem.W.typeIn K (.ref S_NoPlace) = some (.type "type"))
    (be_NoPlace : PySem.W.subIn K (.ref S_NoPlace) (.type "BaseException") = some true)
    (bp_NoPlace : plB K S_NoPlace = true)
    (bC_NoNumber : PySem.W.nsIn K mainGlobals "NoNumber" = some (some (.ref S_NoNumber)))
    (bn_NoNumber : clsNm K S_NoNumber = some "NoNumber")
    (bt_NoNumber : PySem.W.typeIn K (.ref S_NoNumber) = some (.type "type"))
    (be_NoNumber : PySem.W.subIn K (.ref S_NoNumber) (.type "BaseException") = some true)
    (bp_NoNumber : plB K S_NoNumber = true)
    (bC_NoDeed : PySem.W.nsIn K mainGlobals "NoDeed" = some (some (.ref S_NoDeed)))
    (bn_NoDeed : clsNm K S_NoDeed = some "NoDeed")
    (bt_NoDeed : PySem.W.typeIn K (.ref S_NoDeed) = some (.type "type"))
    (be_NoDeed : PySem.W.subIn K (.ref S_NoDeed) (.type "BaseException") = some true)
    (bp_NoDeed : plB K S_NoDeed = true)
    (bC_NoCut : PySem.W.nsIn K mainGlobals "NoCut" = some (some (.ref S_NoCut)))
    (bn_NoCut : clsNm K S_NoCut = some "NoCut")
    (bt_NoCut : PySem.W.typeIn K (.ref S_NoCut) = some (.type "type"))
    (be_NoCut : PySem.W.subIn K (.ref S_NoCut) (.type "BaseException") = some true)
    (bp_NoCut : plB K S_NoCut = true)
    (bC_NoHeap : PySem.W.nsIn K mainGlobals "NoHeap" = some (some (.ref S_NoHeap)))
    (bn_NoHeap : clsNm K S_NoHeap = some "NoHeap")
    (bt_NoHeap : PySem.W.typeIn K (.ref S_NoHeap) = some (.type "type"))
    (be_NoHeap : PySem.W.subIn K (.ref S_NoHeap) (.type "BaseException") = some true)
    (bp_NoHeap : plB K S_NoHeap = true)
    (bC_Clash : PySem.W.nsIn K mainGlobals "Clash" = some (some (.ref S_Clash)))
    (bn_Clash : clsNm K S_Clash = some "Clash")
    (bt_Clash : PySem.W.typeIn K (.ref S_Clash) = some (.type "type"))
    (be_Clash : PySem.W.subIn K (.ref S_Clash) (.type "BaseException") = some true)
    (bp_Clash : plB K S_Clash = true)
    (bC_Strange : PySem.W.nsIn K mainGlobals "Strange" = some (some (.ref S_Strange)))
    (bn_Strange : clsNm K S_Strange = some "Strange")
    (bt_Strange : PySem.W.typeIn K (.ref S_Strange) = some (.type "type"))
    (be_Strange : PySem.W.subIn K (.ref S_Strange) (.type "BaseException") = some true)
    (bp_Strange : plB K S_Strange = true)
    (bC_BadDeed : PySem.W.nsIn K mainGlobals "BadDeed" = some (some (.ref S_BadDeed)))
    (bn_BadDeed : clsNm K S_BadDeed = some "BadDeed")
    (bt_BadDeed : PySem.W.typeIn K (.ref S_BadDeed) = some (.type "type"))
    (be_BadDeed : PySem.W.subIn K (.ref S_BadDeed) (.type "BaseException") = some true)
    (bp_BadDeed : plB K S_BadDeed = true)
    (bC_BadText : PySem.W.nsIn K mainGlobals "BadText" = some (some (.ref S_BadText)))
    (bn_BadText : clsNm K S_BadText = some "BadText")
    (bt_BadText : PySem.W.typeIn K (.ref S_BadText) = some (.type "type"))
    (be_BadText : PySem.W.subIn K (.ref S_BadText) (.type "BaseException") = some true)
    (bp_BadText : plB K S_BadText = true)
    (bC_BadLine : PySem.W.nsIn K mainGlobals "BadLine" = some (some (.ref S_BadLine)))
    (bn_BadLine : clsNm K S_BadLine = some "BadLine")
    (bt_BadLine : PySem.W.typeIn K (.ref S_BadLine) = some (.type "type"))
    (be_BadLine : PySem.W.subIn K (.ref S_BadLine) (.type "BaseException") = some true)
    (bp_BadLine : plB K S_BadLine = true)
    (bC_Unlike : PySem.W.nsIn K mainGlobals "Unlike" = some (some (.ref S_Unlike)))
    (bn_Unlike : clsNm K S_Unlike = some "Unlike")
    (bt_Unlike : PySem.W.typeIn K (.ref S_Unlike) = some (.type "type"))
    (be_Unlike : PySem.W.subIn K (.ref S_Unlike) (.type "BaseException") = some true)
    (bp_Unlike : plB K S_Unlike = true)
    (bC_Odd : PySem.W.nsIn K mainGlobals "Odd" = some (some (.ref S_Odd)))
    (bn_Odd : clsNm K S_Odd = some "Odd")
    (bt_Odd : PySem.W.typeIn K (.ref S_Odd) = some (.type "type"))
    (be_Odd : PySem.W.subIn K (.ref S_Odd) (.type "BaseException") = some true)
    (bp_Odd : plB K S_Odd = true)
    (bC_Barred : PySem.W.nsIn K mainGlobals "Barred" = some (some (.ref S_Barred)))
    (bn_Barred : clsNm K S_Barred = some "Barred")
    (bt_Barred : PySem.W.typeIn K (.ref S_Barred) = some (.type "type"))
    (be_Barred : PySem.W.subIn K (.ref S_Barred) (.type "BaseException") = some true)
    (bp_Barred : plB K S_Barred = true)
    (bC_TooMany : PySem.W.nsIn K mainGlobals "TooMany" = some (some (.ref S_TooMany)))
    (bn_TooMany : clsNm K S_TooMany = some "TooMany")
    (bt_TooMany : PySem.W.typeIn K (.ref S_TooMany) = some (.type "type"))
    (be_TooMany : PySem.W.subIn K (.ref S_TooMany) (.type "BaseException") = some true)
    (bp_TooMany : plB K S_TooMany = true)
    (bC_Full : PySem.W.nsIn K mainGlobals "Full" = some (some (.ref S_Full)))
    (bn_Full : clsNm K S_Full = some "Full")
    (bt_Full : PySem.W.typeIn K (.ref S_Full) = some (.type "type"))
    (be_Full : PySem.W.subIn K (.ref S_Full) (.type "BaseException") = some true)
    (bp_Full : plB K S_Full = true)
    : Txt K mg :=
  {
    d_law_same_v3 := df_mk X G a0 l0 c0 k0 fun _ _ _ _ _ _ us hl => match us, hl with | [_, _], _ => rfl
    d_law_kinds := df_mk X G a1 l1 c1 k1 fun _ _ _ _ _ _ us hl => match us, hl with | [_], _ => rfl
    d_law_bases := df_mk X G a2 l2 c2 k2 fun _ _ _ _ _ _ us hl => match us, hl with | [_], _ => rfl
    d_law_all_right := df_mk X G a3 l3 c3 k3 fun _ _ _ _ _ _ us hl => match us, hl with | [_, _], _ => rfl
    d_law_right_v80 := df_mk X G a4 l4 c4 k4 fun _ _ _ _ _ _ us hl => match us, hl with | [_], _ => rfl
    d_law_v81 := df_mk X G a5 l5 c5 k5 fun _ _ _ _ _ _ us hl => match us, hl with | [_], _ => rfl
    z_KeyError := PySem.W.mg_none_of X G z_KeyError
    z_LookupError := PySem.W.mg_none_of X G z_LookupError
    z_NotImplementedError := PySem.W.mg_none_of X G z_NotImplementedError
    z_OverflowError := PySem.W.mg_none_of X G z_OverflowError
    z_RuntimeError := PySem.W.mg_none_of X G z_RuntimeError
    z_ValueError := PySem.W.mg_none_of X G z_ValueError
    z_abs := PySem.W.mg_none_of X G z_abs
    z_all := PySem.W.mg_none_of X G z_all
    z_bool := PySem.W.mg_none_of X G z_bool
    z_enumerate := PySem.W.mg_none_of X G z_enumerate
    z_int := PySem.W.mg_none_of X G z_int
    z_isinstance := PySem.W.mg_none_of X G z_isinstance
    z_len := PySem.W.mg_none_of X G z_len
    z_list := PySem.W.mg_none_of X G z_list
    z_range := PySem.W.mg_none_of X G z_range
    z_str := PySem.W.mg_none_of X G z_str
    z_tuple := PySem.W.mg_none_of X G z_tuple
    z_zip := PySem.W.mg_none_of X G z_zip
    er_NoStone := err_mk X G aC_NoStone xL_NoStone sa_NoStone ga_NoStone gg_NoStone gc_NoStone sg_NoStone tg_NoStone mo_NoStone i1_NoStone t1_NoStone l1_NoStone c1_NoStone k1_NoStone kC_NoStone eC_NoStone tC_NoStone hC_NoStone fl_NoStone ak_NoStone ow_NoStone fun fd F => F.binds (ps := ["self", "stone"]) fun _ _ _ _ _ _ us hl => match us, hl with | [_, _], _ => rfl
    er_NoPlace := err_mk X G aC_NoPlace xL_NoPlace sa_NoPlace ga_NoPlace gg_NoPlace gc_NoPlace sg_NoPlace tg_NoPlace mo_NoPlace i1_NoPlace t1_NoPlace l1_NoPlace c1_NoPlace k1_NoPlace kC_NoPlace eC_NoPlace tC_NoPlace hC_NoPlace fl_NoPlace ak_NoPlace ow_NoPlace fun fd F => F.binds (ps := ["self", "place"]) fun _ _ _ _ _ _ us hl => match us, hl with | [_, _], _ => rfl
    er_NoNumber := err_mk X G aC_NoNumber xL_NoNumber sa_NoNumber ga_NoNumber gg_NoNumber gc_NoNumber sg_NoNumber tg_NoNumber mo_NoNumber i1_NoNumber t1_NoNumber l1_NoNumber c1_NoNumber k1_NoNumber kC_NoNumber eC_NoNumber tC_NoNumber hC_NoNumber fl_NoNumber ak_NoNumber ow_NoNumber fun fd F => F.binds (ps := ["self", "number"]) fun _ _ _ _ _ _ us hl => match us, hl with | [_, _], _ => rfl
    er_NoDeed := err_mk X G aC_NoDeed xL_NoDeed sa_NoDeed ga_NoDeed gg_NoDeed gc_NoDeed sg_NoDeed tg_NoDeed mo_NoDeed i1_NoDeed t1_NoDeed l1_NoDeed c1_NoDeed k1_NoDeed kC_NoDeed eC_NoDeed tC_NoDeed hC_NoDeed fl_NoDeed ak_NoDeed ow_NoDeed fun fd F => F.binds (ps := ["self", "many"]) fun _ _ _ _ _ _ us hl => match us, hl with | [_, _], _ => rfl
    er_NoCut := err_mk X G aC_NoCut xL_NoCut sa_NoCut ga_NoCut gg_NoCut gc_NoCut sg_NoCut tg_NoCut mo_NoCut i1_NoCut t1_NoCut l1_NoCut c1_NoCut k1_NoCut kC_NoCut eC_NoCut tC_NoCut hC_NoCut fl_NoCut ak_NoCut ow_NoCut fun fd F => F.binds (ps := ["self", "stone"]) fun _ _ _ _ _ _ us hl => match us, hl with | [_, _], _ => rfl
    er_NoHeap := err_mk X G aC_NoHeap xL_NoHeap sa_NoHeap ga_NoHeap gg_NoHeap gc_NoHeap sg_NoHeap tg_NoHeap mo_NoHeap i1_NoHeap t1_NoHeap l1_NoHeap c1_NoHeap k1_NoHeap kC_NoHeap eC_NoHeap tC_NoHeap hC_NoHeap fl_NoHeap ak_NoHeap ow_NoHeap fun fd F => F.binds (ps := ["self", "heap"]) fun _ _ _ _ _ _ us hl => match us, hl with | [_, _], _ => rfl
    er_Clash := err_mk2 X G aC_Clash xL_Clash sa_Clash ga_Clash gg_Clash gc_Clash sg_Clash tg_Clash mo_Clash i1_Clash t1_Clash l1_Clash c1_Clash k1_Clash kC_Clash eC_Clash tC_Clash hC_Clash fl_Clash ak_Clash ow_Clash fun fd F => F.binds (ps := ["self", "heap", "other"]) fun _ _ _ _ _ _ us hl => match us, hl with | [_, _, _], _ => rfl
    er_Strange := err_mk X G aC_Strange xL_Strange sa_Strange ga_Strange gg_Strange gc_Strange sg_Strange tg_Strange mo_Strange i1_Strange t1_Strange l1_Strange c1_Strange k1_Strange kC_Strange eC_Strange tC_Strange hC_Strange fl_Strange ak_Strange ow_Strange fun fd F => F.binds (ps := ["self", "index"]) fun _ _ _ _ _ _ us hl => match us, hl with | [_, _], _ => rfl
    er_BadDeed := err_mk X G aC_BadDeed xL_BadDeed sa_BadDeed ga_BadDeed gg_BadDeed gc_BadDeed sg_BadDeed tg_BadDeed mo_BadDeed i1_BadDeed t1_BadDeed l1_BadDeed c1_BadDeed k1_BadDeed kC_BadDeed eC_BadDeed tC_BadDeed hC_BadDeed fl_BadDeed ak_BadDeed ow_BadDeed fun fd F => F.binds (ps := ["self", "at"]) fun _ _ _ _ _ _ us hl => match us, hl with | [_, _], _ => rfl
    er_BadText := err_mk X G aC_BadText xL_BadText sa_BadText ga_BadText gg_BadText gc_BadText sg_BadText tg_BadText mo_BadText i1_BadText t1_BadText l1_BadText c1_BadText k1_BadText kC_BadText eC_BadText tC_BadText hC_BadText fl_BadText ak_BadText ow_BadText fun fd F => F.binds (ps := ["self", "text"]) fun _ _ _ _ _ _ us hl => match us, hl with | [_, _], _ => rfl
    er_BadLine := err_mk X G aC_BadLine xL_BadLine sa_BadLine ga_BadLine gg_BadLine gc_BadLine sg_BadLine tg_BadLine mo_BadLine i1_BadLine t1_BadLine l1_BadLine c1_BadLine k1_BadLine kC_BadLine eC_BadLine tC_BadLine hC_BadLine fl_BadLine ak_BadLine ow_BadLine fun fd F => F.binds (ps := ["self", "at"]) fun _ _ _ _ _ _ us hl => match us, hl with | [_, _], _ => rfl
    er_Unlike := err_mk X G aC_Unlike xL_Unlike sa_Unlike ga_Unlike gg_Unlike gc_Unlike sg_Unlike tg_Unlike mo_Unlike i1_Unlike t1_Unlike l1_Unlike c1_Unlike k1_Unlike kC_Unlike eC_Unlike tC_Unlike hC_Unlike fl_Unlike ak_Unlike ow_Unlike fun fd F => F.binds (ps := ["self", "place"]) fun _ _ _ _ _ _ us hl => match us, hl with | [_, _], _ => rfl
    er_Odd := err_mk X G aC_Odd xL_Odd sa_Odd ga_Odd gg_Odd gc_Odd sg_Odd tg_Odd mo_Odd i1_Odd t1_Odd l1_Odd c1_Odd k1_Odd kC_Odd eC_Odd tC_Odd hC_Odd fl_Odd ak_Odd ow_Odd fun fd F => F.binds (ps := ["self", "place"]) fun _ _ _ _ _ _ us hl => match us, hl with | [_, _], _ => rfl
    er_Barred := err_mk X G aC_Barred xL_Barred sa_Barred ga_Barred gg_Barred gc_Barred sg_Barred tg_Barred mo_Barred i1_Barred t1_Barred l1_Barred c1_Barred k1_Barred kC_Barred eC_Barred tC_Barred hC_Barred fl_Barred ak_Barred ow_Barred fun fd F => F.binds (ps := ["self", "stones"]) fun _ _ _ _ _ _ us hl => match us, hl with | [_, _], _ => rfl
    er_TooMany := err_mk X G aC_TooMany xL_TooMany sa_TooMany ga_TooMany gg_TooMany gc_TooMany sg_TooMany tg_TooMany mo_TooMany i1_TooMany t1_TooMany l1_TooMany c1_TooMany k1_TooMany kC_TooMany eC_TooMany tC_TooMany hC_TooMany fl_TooMany ak_TooMany ow_TooMany fun fd F => F.binds (ps := ["self", "many"]) fun _ _ _ _ _ _ us hl => match us, hl with | [_, _], _ => rfl
    er_Full := err_mk X G aC_Full xL_Full sa_Full ga_Full gg_Full gc_Full sg_Full tg_Full mo_Full i1_Full t1_Full l1_Full c1_Full k1_Full kC_Full eC_Full tC_Full hC_Full fl_Full ak_Full ow_Full fun fd F => F.binds (ps := ["self", "many"]) fun _ _ _ _ _ _ us hl => match us, hl with | [_, _], _ => rfl
    t_NoStone := cat_mk X G bC_NoStone bn_NoStone bt_NoStone be_NoStone bp_NoStone
    t_NoPlace := cat_mk X G bC_NoPlace bn_NoPlace bt_NoPlace be_NoPlace bp_NoPlace
    t_NoNumber := cat_mk X G bC_NoNumber bn_NoNumber bt_NoNumber be_NoNumber bp_NoNumber
    t_NoDeed := cat_mk X G bC_NoDeed bn_NoDeed bt_NoDeed be_NoDeed bp_NoDeed
    t_NoCut := cat_mk X G bC_NoCut bn_NoCut bt_NoCut be_NoCut bp_NoCut
    t_NoHeap := cat_mk X G bC_NoHeap bn_NoHeap bt_NoHeap be_NoHeap bp_NoHeap
    t_Clash := cat_mk X G bC_Clash bn_Clash bt_Clash be_Clash bp_Clash
    t_Strange := cat_mk X G bC_Strange bn_Strange bt_Strange be_Strange bp_Strange
    t_BadDeed := cat_mk X G bC_BadDeed bn_BadDeed bt_BadDeed be_BadDeed bp_BadDeed
    t_BadText := cat_mk X G bC_BadText bn_BadText bt_BadText be_BadText bp_BadText
    t_BadLine := cat_mk X G bC_BadLine bn_BadLine bt_BadLine be_BadLine bp_BadLine
    t_Unlike := cat_mk X G bC_Unlike bn_Unlike bt_Unlike be_Unlike bp_Unlike
    t_Odd := cat_mk X G bC_Odd bn_Odd bt_Odd be_Odd bp_Odd
    t_Barred := cat_mk X G bC_Barred bn_Barred bt_Barred be_Barred bp_Barred
    t_TooMany := cat_mk X G bC_TooMany bn_TooMany bt_TooMany be_TooMany bp_TooMany
    t_Full := cat_mk X G bC_Full bn_Full bt_Full be_Full bp_Full
  }
theorem gend {P : Program} {W : World} {K : PySem.W.Frag} {h : Heap} {mg : Str → Option Value} {fa : Addr} (X : K.In h) (G : h.Ns mainGlobals mg) (hfa : mg "law" = some (.ref fa))
    {f0 : Addr} {od0 an0 : Option Addr} {sl0 : Array (Option Value)} {oc0 kV0 dc0 pm0 cd0 ct0 : Value}
    {f1 : Addr} {od1 an1 : Option Addr} {sl1 : Array (Option Value)} {oc1 kV1 dc1 pm1 cd1 ct1 : Value}
    {f2 : Addr} {od2 an2 : Option Addr} {sl2 : Array (Option Value)} {oc2 kV2 dc2 pm2 cd2 ct2 : Value}
    {f3 : Addr} {od3 an3 : Option Addr} {sl3 : Array (Option Value)} {oc3 kV3 dc3 pm3 cd3 ct3 : Value}
    {f4 : Addr} {od4 an4 : Option Addr} {sl4 : Array (Option Value)} {oc4 kV4 dc4 pm4 cd4 ct4 : Value}
    {f5 : Addr} {od5 an5 : Option Addr} {sl5 : Array (Option Value)} {oc5 kV5 dc5 pm5 cd5 ct5 : Value}
    {C_NoStone f_NoStone N_NoStone : Addr} {nm_NoStone : Str} {bs_NoStone sub_NoStone : List Value} {sn_NoStone : List Str} {ab_NoStone : Bool} {col_NoStone : Option Bool} {dd_NoStone od_NoStone an_NoStone : Option Addr} {m0_NoStone m1_NoStone m2_NoStone m3_NoStone m5_NoStone : Option Value} {sl_NoStone : Array (Option Value)} {oc_NoStone kV_NoStone dc_NoStone pm_NoStone cd_NoStone ct_NoStone : Value}
    {C_NoPlace f_NoPlace N_NoPlace : Addr} {nm_NoPlace : Str} {bs_NoPlace sub_NoPlace : List Value} {sn_NoPlace : List Str} {ab_NoPlace : Bool} {col_NoPlace : Option Bool} {dd_NoPlace od_NoPlace an_NoPlace : Option Addr} {m0_NoPlace m1_NoPlace m2_NoPlace m3_NoPlace m5_NoPlace : Option Value} {sl_NoPlace : Array (Option Value)} {oc_NoPlace kV_NoPlace dc_NoPlace pm_NoPlace cd_NoPlace ct_NoPlace : Value}
    {C_NoNumber f_NoNumber N_NoNumber : Addr} {nm_NoNumber : Str} {bs_NoNumber sub_NoNumber : List Value} {sn_NoNumber : List Str} {ab_NoNumber : Bool} {col_NoNumber : Option Bool} {dd_NoNumber od_NoNumber an_NoNumber : Option Addr} {m0_NoNumber m1_NoNumber m2_NoNumber m3_NoNumber m5_NoNumber : Option Value} {sl_NoNumber : Array (Option Value)} {oc_NoNumber kV_NoNumber dc_NoNumber pm_NoNumber cd_NoNumber ct_NoNumber : Value}
    {C_NoDeed f_NoDeed N_NoDeed : Addr} {nm_NoDeed : Str} {bs_NoDeed sub_NoDeed : List Value} {sn_NoDeed : List Str} {ab_NoDeed : Bool} {col_NoDeed : Option Bool} {dd_NoDeed od_NoDeed an_NoDeed : Option Addr} {m0_NoDeed m1_NoDeed m2_NoDeed m3_NoDeed m5_NoDeed : Option Value} {sl_NoDeed : Array (Option Value)} {oc_NoDeed kV_NoDeed dc_NoDeed pm_NoDeed cd_NoDeed ct_NoDeed : Value}
    {C_NoCut f_NoCut N_NoCut : Addr} {nm_NoCut : Str} {bs_NoCut sub_NoCut : List Value} {sn_NoCut : List Str} {ab_NoCut : Bool} {col_NoCut : Option Bool} {dd_NoCut od_NoCut an_NoCut : Option Addr} {m0_NoCut m1_NoCut m2_NoCut m3_NoCut m5_NoCut : Option Value} {sl_NoCut : Array (Option Value)} {oc_NoCut kV_NoCut dc_NoCut pm_NoCut cd_NoCut ct_NoCut : Value}
    {C_NoHeap f_NoHeap N_NoHeap : Addr} {nm_NoHeap : Str} {bs_NoHeap sub_NoHeap : List Value} {sn_NoHeap : List Str} {ab_NoHeap : Bool} {col_NoHeap : Option Bool} {dd_NoHeap od_NoHeap an_NoHeap : Option Addr} {m0_NoHeap m1_NoHeap m2_NoHeap m3_NoHeap m5_NoHeap : Option Value} {sl_NoHeap : Array (Option Value)} {oc_NoHeap kV_NoHeap dc_NoHeap pm_NoHeap cd_NoHeap ct_NoHeap : Value}
    {C_Clash f_Clash N_Clash : Addr} {nm_Clash : Str} {bs_Clash sub_Clash : List Value} {sn_Clash : List Str} {ab_Clash : Bool} {col_Clash : Option Bool} {dd_Clash od_Clash an_Clash : Option Addr} {m0_Clash m1_Clash m2_Clash m3_Clash m5_Clash : Option Value} {sl_Clash : Array (Option Value)} {oc_Clash kV_Clash dc_Clash pm_Clash cd_Clash ct_Clash : Value}
    {C_Strange f_Strange N_Strange : Addr} {nm_Strange : Str} {bs_Strange sub_Strange : List Value} {sn_Strange : List Str} {ab_Strange : Bool} {col_Strange : Option Bool} {dd_Strange od_Strange an_Strange : Option Addr} {m0_Strange m1_Strange m2_Strange m3_Strange m5_Strange : Option Value} {sl_Strange : Array (Option Value)} {oc_Strange kV_Strange dc_Strange pm_Strange cd_Strange ct_Strange : Value}
    {C_BadDeed f_BadDeed N_BadDeed : Addr} {nm_BadDeed : Str} {bs_BadDeed sub_BadDeed : List Value} {sn_BadDeed : List Str} {ab_BadDeed : Bool} {col_BadDeed : Option Bool} {dd_BadDeed od_BadDeed an_BadDeed : Option Addr} {m0_BadDeed m1_BadDeed m2_BadDeed m3_BadDeed m5_BadDeed : Option Value} {sl_BadDeed : Array (Option Value)} {oc_BadDeed kV_BadDeed dc_BadDeed pm_BadDeed cd_BadDeed ct_BadDeed : Value}
    {C_BadText f_BadText N_BadText : Addr} {nm_BadText : Str} {bs_BadText sub_BadText : List Value} {sn_BadText : List Str} {ab_BadText : Bool} {col_BadText : Option Bool} {dd_BadText od_BadText an_BadText : Option Addr} {m0_BadText m1_BadText m2_BadText m3_BadText m5_BadText : Option Value} {sl_BadText : Array (Option Value)} {oc_BadText kV_BadText dc_BadText pm_BadText cd_BadText ct_BadText : Value}
    {C_BadLine f_BadLine N_BadLine : Addr} {nm_BadLine : Str} {bs_BadLine sub_BadLine : List Value} {sn_BadLine : List Str} {ab_BadLine : Bool} {col_BadLine : Option Bool} {dd_BadLine od_BadLine an_BadLine : Option Addr} {m0_BadLine m1_BadLine m2_BadLine m3_BadLine m5_BadLine : Option Value} {sl_BadLine : Array (Option Value)} {oc_BadLine kV_BadLine dc_BadLine pm_BadLine cd_BadLine ct_BadLine : Value}
    {C_Unlike f_Unlike N_Unlike : Addr} {nm_Unlike : Str} {bs_Unlike sub_Unlike : List Value} {sn_Unlike : List Str} {ab_Unlike : Bool} {col_Unlike : Option Bool} {dd_Unlike od_Unlike an_Unlike : Option Addr} {m0_Unlike m1_Unlike m2_Unlike m3_Unlike m5_Unlike : Option Value} {sl_Unlike : Array (Option Value)} {oc_Unlike kV_Unlike dc_Unlike pm_Unlike cd_Unlike ct_Unlike : Value}
    {C_Odd f_Odd N_Odd : Addr} {nm_Odd : Str} {bs_Odd sub_Odd : List Value} {sn_Odd : List Str} {ab_Odd : Bool} {col_Odd : Option Bool} {dd_Odd od_Odd an_Odd : Option Addr} {m0_Odd m1_Odd m2_Odd m3_Odd m5_Odd : Option Value} {sl_Odd : Array (Option Value)} {oc_Odd kV_Odd dc_Odd pm_Odd cd_Odd ct_Odd : Value}
    {C_Barred f_Barred N_Barred : Addr} {nm_Barred : Str} {bs_Barred sub_Barred : List Value} {sn_Barred : List Str} {ab_Barred : Bool} {col_Barred : Option Bool} {dd_Barred od_Barred an_Barred : Option Addr} {m0_Barred m1_Barred m2_Barred m3_Barred m5_Barred : Option Value} {sl_Barred : Array (Option Value)} {oc_Barred kV_Barred dc_Barred pm_Barred cd_Barred ct_Barred : Value}
    {C_TooMany f_TooMany N_TooMany : Addr} {nm_TooMany : Str} {bs_TooMany sub_TooMany : List Value} {sn_TooMany : List Str} {ab_TooMany : Bool} {col_TooMany : Option Bool} {dd_TooMany od_TooMany an_TooMany : Option Addr} {m0_TooMany m1_TooMany m2_TooMany m3_TooMany m5_TooMany : Option Value} {sl_TooMany : Array (Option Value)} {oc_TooMany kV_TooMany dc_TooMany pm_TooMany cd_TooMany ct_TooMany : Value}
    {C_Full f_Full N_Full : Addr} {nm_Full : Str} {bs_Full sub_Full : List Value} {sn_Full : List Str} {ab_Full : Bool} {col_Full : Option Bool} {dd_Full od_Full an_Full : Option Addr} {m0_Full m1_Full m2_Full m3_Full m5_Full : Option Value} {sl_Full : Array (Option Value)} {oc_Full kV_Full dc_Full pm_Full cd_Full ct_Full : Value}
    {S_NoStone : Addr}
    {S_NoPlace : Addr}
    {S_NoNumber : Addr}
    {S_NoDeed : Addr}
    {S_NoCut : Addr}
    {S_NoHeap : Addr}
    {S_Clash : Addr}
    {S_Strange : Addr}
    {S_BadDeed : Addr}
    {S_BadText : Addr}
    {S_BadLine : Addr}
    {S_Unlike : Addr}
    {S_Odd : Addr}
    {S_Barred : Addr}
    {S_TooMany : Addr}
    {S_Full : Addr}
    (a0 : PySem.W.nsIn K mainGlobals "_law_same" = some (some (.ref f0)))
    (l0 : K.lookup f0 = some ⟨oc0, od0, .func (PySem.W.fnOf "_law_same" "_law_same" (defArgs st_law_same_v3) (defBody st_law_same_v3) (defScope st_law_same_v3) .none kV0 dc0 pm0 an0 cd0 ct0), sl0⟩)
    (c0 : PySem.W.codeIn K cd0 "_law_same" = true)
    (k0 : PySem.W.keepIn K (.ref f0) = true)
    (a1 : PySem.W.nsIn K mainGlobals "_law_kinds" = some (some (.ref f1)))
    (l1 : K.lookup f1 = some ⟨oc1, od1, .func (PySem.W.fnOf "_law_kinds" "_law_kinds" (defArgs st_law_kinds) (defBody st_law_kinds) (defScope st_law_kinds) .none kV1 dc1 pm1 an1 cd1 ct1), sl1⟩)
    (c1 : PySem.W.codeIn K cd1 "_law_kinds" = true)
    (k1 : PySem.W.keepIn K (.ref f1) = true)
    (a2 : PySem.W.nsIn K mainGlobals "_law_bases" = some (some (.ref f2)))
    (l2 : K.lookup f2 = some ⟨oc2, od2, .func (PySem.W.fnOf "_law_bases" "_law_bases" (defArgs st_law_bases) (defBody st_law_bases) (defScope st_law_bases) .none kV2 dc2 pm2 an2 cd2 ct2), sl2⟩)
    (c2 : PySem.W.codeIn K cd2 "_law_bases" = true)
    (k2 : PySem.W.keepIn K (.ref f2) = true)
    (a3 : PySem.W.nsIn K mainGlobals "_law_all_right" = some (some (.ref f3)))
    (l3 : K.lookup f3 = some ⟨oc3, od3, .func (PySem.W.fnOf "_law_all_right" "_law_all_right" (defArgs st_law_all_right) (defBody st_law_all_right) (defScope st_law_all_right) .none kV3 dc3 pm3 an3 cd3 ct3), sl3⟩)
    (c3 : PySem.W.codeIn K cd3 "_law_all_right" = true)
    (k3 : PySem.W.keepIn K (.ref f3) = true)
    (a4 : PySem.W.nsIn K mainGlobals "_law_right" = some (some (.ref f4)))
    (l4 : K.lookup f4 = some ⟨oc4, od4, .func (PySem.W.fnOf "_law_right" "_law_right" (defArgs st_law_right_v80) (defBody st_law_right_v80) (defScope st_law_right_v80) .none kV4 dc4 pm4 an4 cd4 ct4), sl4⟩)
    (c4 : PySem.W.codeIn K cd4 "_law_right" = true)
    (k4 : PySem.W.keepIn K (.ref f4) = true)
    (a5 : PySem.W.nsIn K mainGlobals "law" = some (some (.ref f5)))
    (l5 : K.lookup f5 = some ⟨oc5, od5, .func (PySem.W.fnOf "law" "law" (defArgs st_law_v81) (defBody st_law_v81) (defScope st_law_v81) .none kV5 dc5 pm5 an5 cd5 ct5), sl5⟩)
    (c5 : PySem.W.codeIn K cd5 "law" = true)
    (k5 : PySem.W.keepIn K (.ref f5) = true)
    (z_KeyError : PySem.W.nsIn K mainGlobals "KeyError" = some none)
    (z_LookupError : PySem.W.nsIn K mainGlobals "LookupError" = some none)
    (z_NotImplementedError : PySem.W.nsIn K mainGlobals "NotImplementedError" = some none)
    (z_OverflowError : PySem.W.nsIn K mainGlobals "OverflowError" = some none)
    (z_RuntimeError : PySem.W.nsIn K mainGlobals "RuntimeError" = some none)
    (z_ValueError : PySem.W.nsIn K mainGlobals "ValueError" = some none)
    (z_abs : PySem.W.nsIn K mainGlobals "abs" = some none)
    (z_all : PySem.W.nsIn K mainGlobals "all" = some none)
    (z_bool : PySem.W.nsIn K mainGlobals "bool" = some none)
    (z_enumerate : PySem.W.nsIn K mainGlobals "enumerate" = some none)
    (z_int : PySem.W.nsIn K mainGlobals "int" = some none)
    (z_isinstance : PySem.W.nsIn K mainGlobals "isinstance" = some none)
    (z_len : PySem.W.nsIn K mainGlobals "len" = some none)
    (z_list : PySem.W.nsIn K mainGlobals "list" = some none)
    (z_range : PySem.W.nsIn K mainGlobals "range" = some none)
    (z_str : PySem.W.nsIn K mainGlobals "str" = some none)
    (z_tuple : PySem.W.nsIn K mainGlobals "tuple" = some none)
    (z_zip : PySem.W.nsIn K mainGlobals "zip" = some none)
    (aC_NoStone : PySem.W.nsIn K mainGlobals "NoStone" = some (some (.ref C_NoStone)))
    (xL_NoStone : K.lookup C_NoStone = some (excClassObj nm_NoStone "NoStone" C_NoStone N_NoStone bs_NoStone bmLookup true sn_NoStone sub_NoStone ab_NoStone col_NoStone dd_NoStone m0_NoStone m1_NoStone m2_NoStone m3_NoStone m5_NoStone "LookupError.__new__"))
    (sa_NoStone : PySem.W.findIn K (.ref C_NoStone) "__setattr__" = some (some (.builtin "object.__setattr__")))
    (ga_NoStone : PySem.W.findIn K (.ref C_NoStone) "__getattribute__" = some (some (.builtin "BaseException.__getattribute__")))
    (gg_NoStone : PySem.W.findIn K (.ref C_NoStone) "__getattr__" = some none)
    (gc_NoStone : PySem.W.findIn K (.ref C_NoStone) "__class__" = some (some (.builtin "object.__class__")))
    (sg_NoStone : PySem.W.specialIn K (.builtin "object.__class__") "__get__" = some (some (.builtin "getset_descriptor.__get__")))
    (tg_NoStone : PySem.W.takesIn K (.builtin "object.__class__") = some true)
    (mo_NoStone : PySem.W.mroIn K C_NoStone (.type "object") = some true)
    (i1_NoStone : PySem.W.findIn K (.ref C_NoStone) "__init__" = some (some (.ref f_NoStone)))
    (t1_NoStone : PySem.W.typeIn K (.ref f_NoStone) = some (.type "function"))
    (l1_NoStone : K.lookup f_NoStone = some ⟨oc_NoStone, od_NoStone, .func (PySem.W.fnOf "__init__" "NoStone.__init__" (defArgs (initOf (top 1))) (defBody (initOf (top 1))) (defScope (initOf (top 1))) .none kV_NoStone dc_NoStone pm_NoStone an_NoStone cd_NoStone ct_NoStone), sl_NoStone⟩)
    (c1_NoStone : PySem.W.codeIn K cd_NoStone "NoStone.__init__" = true)
    (k1_NoStone : PySem.W.keepIn K (.ref f_NoStone) = true)
    (kC_NoStone : PySem.W.keepIn K (.ref C_NoStone) = true)
    (eC_NoStone : PySem.W.subIn K (.ref C_NoStone) (.type "BaseException") = some true)
    (tC_NoStone : PySem.W.typeIn K (.ref C_NoStone) = some (.type "type"))
    (hC_NoStone : PySem.W.hasDictIn K C_NoStone = true)
    (fl_NoStone : flB K C_NoStone = true)
    (ak_NoStone : askB K C_NoStone "NoStone" = true)
    (ow_NoStone : ownB K C_NoStone "NoStone" = true)
    (aC_NoPlace : PySem.W.nsIn K mainGlobals "NoPlace" = some (some (.ref C_NoPlace)))
    (xL_NoPlace : K.lookup C_NoPlace = some (excClassObj nm_NoPlace "NoPlace" C_NoPlace N_NoPlace bs_NoPlace bmLookup true sn_NoPlace sub_NoPlace ab_NoPlace col_NoPlace dd_NoPlace m0_NoPlace m1_NoPlace m2_NoPlace m3_NoPlace m5_NoPlace "LookupError.__new__"))
    (sa_NoPlace : PySem.W.findIn K (.ref C_NoPlace) "__setattr__" = some (some (.builtin "object.__setattr__")))
    (ga_NoPlace : PySem.W.findIn K (.ref C_NoPlace) "__getattribute__" = some (some (.builtin "BaseException.__getattribute__")))
    (gg_NoPlace : PySem.W.findIn K (.ref C_NoPlace) "__getattr__" = some none)
    (gc_NoPlace : PySem.W.findIn K (.ref C_NoPlace) "__class__" = some (some (.builtin "object.__class__")))
    (sg_NoPlace : PySem.W.specialIn K (.builtin "object.__class__") "__get__" = some (some (.builtin "getset_descriptor.__get__")))
    (tg_NoPlace : PySem.W.takesIn K (.builtin "object.__class__") = some true)
    (mo_NoPlace : PySem.W.mroIn K C_NoPlace (.type "object") = some true)
    (i1_NoPlace : PySem.W.findIn K (.ref C_NoPlace) "__init__" = some (some (.ref f_NoPlace)))
    (t1_NoPlace : PySem.W.typeIn K (.ref f_NoPlace) = some (.type "function"))
    (l1_NoPlace : K.lookup f_NoPlace = some ⟨oc_NoPlace, od_NoPlace, .func (PySem.W.fnOf "__init__" "NoPlace.__init__" (defArgs (initOf (top 2))) (defBody (initOf (top 2))) (defScope (initOf (top 2))) .none kV_NoPlace dc_NoPlace pm_NoPlace an_NoPlace cd_NoPlace ct_NoPlace), sl_NoPlace⟩)
    (c1_NoPlace : PySem.W.codeIn K cd_NoPlace "NoPlace.__init__" = true)
    (k1_NoPlace : PySem.W.keepIn K (.ref f_NoPlace) = true)
    (kC_NoPlace : PySem.W.keepIn K (.ref C_NoPlace) = true)
    (eC_NoPlace : PySem.W.subIn K (.ref C_NoPlace) (.type "BaseException") = some true)
    (tC_NoPlace : PySem.W.typeIn K (.ref C_NoPlace) = some (.type "type"))
    (hC_NoPlace : PySem.W.hasDictIn K C_NoPlace = true)
    (fl_NoPlace : flB K C_NoPlace = true)
    (ak_NoPlace : askB K C_NoPlace "NoPlace" = true)
    (ow_NoPlace : ownB K C_NoPlace "NoPlace" = true)
    (aC_NoNumber : PySem.W.nsIn K mainGlobals "NoNumber" = some (some (.ref C_NoNumber)))
    (xL_NoNumber : K.lookup C_NoNumber = some (excClassObj nm_NoNumber "NoNumber" C_NoNumber N_NoNumber bs_NoNumber bmLookup true sn_NoNumber sub_NoNumber ab_NoNumber col_NoNumber dd_NoNumber m0_NoNumber m1_NoNumber m2_NoNumber m3_NoNumber m5_NoNumber "LookupError.__new__"))
    (sa_NoNumber : PySem.W.findIn K (.ref C_NoNumber) "__setattr__" = some (some (.builtin "object.__setattr__")))
    (ga_NoNumber : PySem.W.findIn K (.ref C_NoNumber) "__getattribute__" = some (some (.builtin "BaseException.__getattribute__")))
    (gg_NoNumber : PySem.W.findIn K (.ref C_NoNumber) "__getattr__" = some none)
    (gc_NoNumber : PySem.W.findIn K (.ref C_NoNumber) "__class__" = some (some (.builtin "object.__class__")))
    (sg_NoNumber : PySem.W.specialIn K (.builtin "object.__class__") "__get__" = some (some (.builtin "getset_descriptor.__get__")))
    (tg_NoNumber : PySem.W.takesIn K (.builtin "object.__class__") = some true)
    (mo_NoNumber : PySem.W.mroIn K C_NoNumber (.type "object") = some true)
    (i1_NoNumber : PySem.W.findIn K (.ref C_NoNumber) "__init__" = some (some (.ref f_NoNumber)))
    (t1_NoNumber : PySem.W.typeIn K (.ref f_NoNumber) = some (.type "function"))
    (l1_NoNumber : K.lookup f_NoNumber = some ⟨oc_NoNumber, od_NoNumber, .func (PySem.W.fnOf "__init__" "NoNumber.__init__" (defArgs (initOf (top 3))) (defBody (initOf (top 3))) (defScope (initOf (top 3))) .none kV_NoNumber dc_NoNumber pm_NoNumber an_NoNumber cd_NoNumber ct_NoNumber), sl_NoNumber⟩)
    (c1_NoNumber : PySem.W.codeIn K cd_NoNumber "NoNumber.__init__" = true)
    (k1_NoNumber : PySem.W.keepIn K (.ref f_NoNumber) = true)
    (kC_NoNumber : PySem.W.keepIn K (.ref C_NoNumber) = true)
    (eC_NoNumber : PySem.W.subIn K (.ref C_NoNumber) (.type "BaseException") = some true)
    (tC_NoNumber : PySem.W.typeIn K (.ref C_NoNumber) = some (.type "type"))
    (hC_NoNumber : PySem.W.hasDictIn K C_NoNumber = true)
    (fl_NoNumber : flB K C_NoNumber = true)
    (ak_NoNumber : askB K C_NoNumber "NoNumber" = true)
    (ow_NoNumber : ownB K C_NoNumber "NoNumber" = true)
    (aC_NoDeed : PySem.W.nsIn K mainGlobals "NoDeed" = some (some (.ref C_NoDeed)))
    (xL_NoDeed : K.lookup C_NoDeed = some (excClassObj nm_NoDeed "NoDeed" C_NoDeed N_NoDeed bs_NoDeed bmLookup true sn_NoDeed sub_NoDeed ab_NoDeed col_NoDeed dd_NoDeed m0_NoDeed m1_NoDeed m2_NoDeed m3_NoDeed m5_NoDeed "LookupError.__new__"))
    (sa_NoDeed : PySem.W.findIn K (.ref C_NoDeed) "__setattr__" = some (some (.builtin "object.__setattr__")))
    (ga_NoDeed : PySem.W.findIn K (.ref C_NoDeed) "__getattribute__" = some (some (.builtin "BaseException.__getattribute__")))
    (gg_NoDeed : PySem.W.findIn K (.ref C_NoDeed) "__getattr__" = some none)
    (gc_NoDeed : PySem.W.findIn K (.ref C_NoDeed) "__class__" = some (some (.builtin "object.__class__")))
    (sg_NoDeed : PySem.W.specialIn K (.builtin "object.__class__") "__get__" = some (some (.builtin "getset_descriptor.__get__")))
    (tg_NoDeed : PySem.W.takesIn K (.builtin "object.__class__") = some true)
    (mo_NoDeed : PySem.W.mroIn K C_NoDeed (.type "object") = some true)
    (i1_NoDeed : PySem.W.findIn K (.ref C_NoDeed) "__init__" = some (some (.ref f_NoDeed)))
    (t1_NoDeed : PySem.W.typeIn K (.ref f_NoDeed) = some (.type "function"))
    (l1_NoDeed : K.lookup f_NoDeed = some ⟨oc_NoDeed, od_NoDeed, .func (PySem.W.fnOf "__init__" "NoDeed.__init__" (defArgs (initOf (top 4))) (defBody (initOf (top 4))) (defScope (initOf (top 4))) .none kV_NoDeed dc_NoDeed pm_NoDeed an_NoDeed cd_NoDeed ct_NoDeed), sl_NoDeed⟩)
    (c1_NoDeed : PySem.W.codeIn K cd_NoDeed "NoDeed.__init__" = true)
    (k1_NoDeed : PySem.W.keepIn K (.ref f_NoDeed) = true)
    (kC_NoDeed : PySem.W.keepIn K (.ref C_NoDeed) = true)
    (eC_NoDeed : PySem.W.subIn K (.ref C_NoDeed) (.type "BaseException") = some true)
    (tC_NoDeed : PySem.W.typeIn K (.ref C_NoDeed) = some (.type "type"))
    (hC_NoDeed : PySem.W.hasDictIn K C_NoDeed = true)
    (fl_NoDeed : flB K C_NoDeed = true)
    (ak_NoDeed : askB K C_NoDeed "NoDeed" = true)
    (ow_NoDeed : ownB K C_NoDeed "NoDeed" = true)
    (aC_NoCut : PySem.W.nsIn K mainGlobals "NoCut" = some (some (.ref C_NoCut)))
    (xL_NoCut : K.lookup C_NoCut = some (excClassObj nm_NoCut "NoCut" C_NoCut N_NoCut bs_NoCut bmValue true sn_NoCut sub_NoCut ab_NoCut col_NoCut dd_NoCut m0_NoCut m1_NoCut m2_NoCut m3_NoCut m5_NoCut "ValueError.__new__"))
    (sa_NoCut : PySem.W.findIn K (.ref C_NoCut) "__setattr__" = some (some (.builtin "object.__setattr__")))
    (ga_NoCut : PySem.W.findIn K (.ref C_NoCut) "__getattribute__" = some (some (.builtin "BaseException.__getattribute__")))
    (gg_NoCut : PySem.W.findIn K (.ref C_NoCut) "__getattr__" = some none)
    (gc_NoCut : PySem.W.findIn K (.ref C_NoCut) "__class__" = some (some (.builtin "object.__class__")))
    (sg_NoCut : PySem.W.specialIn K (.builtin "object.__class__") "__get__" = some (some (.builtin "getset_descriptor.__get__")))
    (tg_NoCut : PySem.W.takesIn K (.builtin "object.__class__") = some true)
    (mo_NoCut : PySem.W.mroIn K C_NoCut (.type "object") = some true)
    (i1_NoCut : PySem.W.findIn K (.ref C_NoCut) "__init__" = some (some (.ref f_NoCut)))
    (t1_NoCut : PySem.W.typeIn K (.ref f_NoCut) = some (.type "function"))
    (l1_NoCut : K.lookup f_NoCut = some ⟨oc_NoCut, od_NoCut, .func (PySem.W.fnOf "__init__" "NoCut.__init__" (defArgs (initOf (top 5))) (defBody (initOf (top 5))) (defScope (initOf (top 5))) .none kV_NoCut dc_NoCut pm_NoCut an_NoCut cd_NoCut ct_NoCut), sl_NoCut⟩)
    (c1_NoCut : PySem.W.codeIn K cd_NoCut "NoCut.__init__" = true)
    (k1_NoCut : PySem.W.keepIn K (.ref f_NoCut) = true)
    (kC_NoCut : PySem.W.keepIn K (.ref C_NoCut) = true)
    (eC_NoCut : PySem.W.subIn K (.ref C_NoCut) (.type "BaseException") = some true)
    (tC_NoCut : PySem.W.typeIn K (.ref C_NoCut) = some (.type "type"))
    (hC_NoCut : PySem.W.hasDictIn K C_NoCut = true)
    (fl_NoCut : flB K C_NoCut = true)
    (ak_NoCut : askB K C_NoCut "NoCut" = true)
    (ow_NoCut : ownB K C_NoCut "NoCut" = true)
    (aC_NoHeap : PySem.W.nsIn K mainGlobals "NoHeap" = some (some (.ref C_NoHeap)))
    (xL_NoHeap : K.lookup C_NoHeap = some (excClassObj nm_NoHeap "NoHeap" C_NoHeap N_NoHeap bs_NoHeap bmValue true sn_NoHeap sub_NoHeap ab_NoHeap col_NoHeap dd_NoHeap m0_NoHeap m1_NoHeap m2_NoHeap m3_NoHeap m5_NoHeap "ValueError.__new__"))
    (sa_NoHeap : PySem.W.findIn K (.ref C_NoHeap) "__setattr__" = some (some (.builtin "object.__setattr__")))
    (ga_NoHeap : PySem.W.findIn K (.ref C_NoHeap) "__getattribute__" = some (some (.builtin "BaseException.__getattribute__")))
    (gg_NoHeap : PySem.W.findIn K (.ref C_NoHeap) "__getattr__" = some none)
    (gc_NoHeap : PySem.W.findIn K (.ref C_NoHeap) "__class__" = some (some (.builtin "object.__class__")))
    (sg_NoHeap : PySem.W.specialIn K (.builtin "object.__class__") "__get__" = some (some (.builtin "getset_descriptor.__get__")))
    (tg_NoHeap : PySem.W.takesIn K (.builtin "object.__class__") = some true)
    (mo_NoHeap : PySem.W.mroIn K C_NoHeap (.type "object") = some true)
    (i1_NoHeap : PySem.W.findIn K (.ref C_NoHeap) "__init__" = some (some (.ref f_NoHeap)))
    (t1_NoHeap : PySem.W.typeIn K (.ref f_NoHeap) = some (.type "function"))
    (l1_NoHeap : K.lookup f_NoHeap = some ⟨oc_NoHeap, od_NoHeap, .func (PySem.W.fnOf "__init__" "NoHeap.__init__" (defArgs (initOf (top 6))) (defBody (initOf (top 6))) (defScope (initOf (top 6))) .none kV_NoHeap dc_NoHeap pm_NoHeap an_NoHeap cd_NoHeap ct_NoHeap), sl_NoHeap⟩)
    (c1_NoHeap : PySem.W.codeIn K cd_NoHeap "NoHeap.__init__" = true)
    (k1_NoHeap : PySem.W.keepIn K (.ref f_NoHeap) = true)
    (kC_NoHeap : PySem.W.keepIn K (.ref C_NoHeap) = true)
    (eC_NoHeap : PySem.W.subIn K (.ref C_NoHeap) (.type "BaseException") = some true)
    (tC_NoHeap : PySem.W.typeIn K (.ref C_NoHeap) = some (.type "type"))
    (hC_NoHeap : PySem.W.hasDictIn K C_NoHeap = true)
    (fl_NoHeap : flB K C_NoHeap = true)
    (ak_NoHeap : askB K C_NoHeap "NoHeap" = true)
    (ow_NoHeap : ownB K C_NoHeap "NoHeap" = true)
    (aC_Clash : PySem.W.nsIn K mainGlobals "Clash" = some (some (.ref C_Clash)))
    (xL_Clash : K.lookup C_Clash = some (excClassObj nm_Clash "Clash" C_Clash N_Clash bs_Clash bmValue true sn_Clash sub_Clash ab_Clash col_Clash dd_Clash m0_Clash m1_Clash m2_Clash m3_Clash m5_Clash "ValueError.__new__"))
    (sa_Clash : PySem.W.findIn K (.ref C_Clash) "__setattr__" = some (some (.builtin "object.__setattr__")))
    (ga_Clash : PySem.W.findIn K (.ref C_Clash) "__getattribute__" = some (some (.builtin "BaseException.__getattribute__")))
    (gg_Clash : PySem.W.findIn K (.ref C_Clash) "__getattr__" = some none)
    (gc_Clash : PySem.W.findIn K (.ref C_Clash) "__class__" = some (some (.builtin "object.__class__")))
    (sg_Clash : PySem.W.specialIn K (.builtin "object.__class__") "__get__" = some (some (.builtin "getset_descriptor.__get__")))
    (tg_Clash : PySem.W.takesIn K (.builtin "object.__class__") = some true)
    (mo_Clash : PySem.W.mroIn K C_Clash (.type "object") = some true)
    (i1_Clash : PySem.W.findIn K (.ref C_Clash) "__init__" = some (some (.ref f_Clash)))
    (t1_Clash : PySem.W.typeIn K (.ref f_Clash) = some (.type "function"))
    (l1_Clash : K.lookup f_Clash = some ⟨oc_Clash, od_Clash, .func (PySem.W.fnOf "__init__" "Clash.__init__" (defArgs (initOf (top 7))) (defBody (initOf (top 7))) (defScope (initOf (top 7))) .none kV_Clash dc_Clash pm_Clash an_Clash cd_Clash ct_Clash), sl_Clash⟩)
    (c1_Clash : PySem.W.codeIn K cd_Clash "Clash.__init__" = true)
    (k1_Clash : PySem.W.keepIn K (.ref f_Clash) = true)
    (kC_Clash : PySem.W.keepIn K (.ref C_Clash) = true)
    (eC_Clash : PySem.W.subIn K (.ref C_Clash) (.type "BaseException") = some true)
    (tC_Clash : PySem.W.typeIn K (.ref C_Clash) = some (.type "type"))
    (hC_Clash : PySem.W.hasDictIn K C_Clash = true)
    (fl_Clash : flB K C_Clash = true)
    (ak_Clash : askB K C_Clash "Clash" = true)
    (ow_Clash : ownB K C_Clash "Clash" = true)
    (aC_Strange : PySem.W.nsIn K mainGlobals "Strange" = some (some (.ref C_Strange)))
    (xL_Strange : K.lookup C_Strange = some (excClassObj nm_Strange "Strange" C_Strange N_Strange bs_Strange bmValue true sn_Strange sub_Strange ab_Strange col_Strange dd_Strange m0_Strange m1_Strange m2_Strange m3_Strange m5_Strange "ValueError.__new__"))
    (sa_Strange : PySem.W.findIn K (.ref C_Strange) "__setattr__" = some (some (.builtin "object.__setattr__")))
    (ga_Strange : PySem.W.findIn K (.ref C_Strange) "__getattribute__" = some (some (.builtin "BaseException.__getattribute__")))
    (gg_Strange : PySem.W.findIn K (.ref C_Strange) "__getattr__" = some none)
    (gc_Strange : PySem.W.findIn K (.ref C_Strange) "__class__" = some (some (.builtin "object.__class__")))
    (sg_Strange : PySem.W.specialIn K (.builtin "object.__class__") "__get__" = some (some (.builtin "getset_descriptor.__get__")))
    (tg_Strange : PySem.W.takesIn K (.builtin "object.__class__") = some true)
    (mo_Strange : PySem.W.mroIn K C_Strange (.type "object") = some true)
    (i1_Strange : PySem.W.findIn K (.ref C_Strange) "__init__" = some (some (.ref f_Strange)))
    (t1_Strange : PySem.W.typeIn K (.ref f_Strange) = some (.type "function"))
    (l1_Strange : K.lookup f_Strange = some ⟨oc_Strange, od_Strange, .func (PySem.W.fnOf "__init__" "Strange.__init__" (defArgs (initOf (top 8))) (defBody (initOf (top 8))) (defScope (initOf (top 8))) .none kV_Strange dc_Strange pm_Strange an_Strange cd_Strange ct_Strange), sl_Strange⟩)
    (c1_Strange : PySem.W.codeIn K cd_Strange "Strange.__init__" = true)
    (k1_Strange : PySem.W.keepIn K (.ref f_Strange) = true)
    (kC_Strange : PySem.W.keepIn K (.ref C_Strange) = true)
    (eC_Strange : PySem.W.subIn K (.ref C_Strange) (.type "BaseException") = some true)
    (tC_Strange : PySem.W.typeIn K (.ref C_Strange) = some (.type "type"))
    (hC_Strange : PySem.W.hasDictIn K C_Strange = true)
    (fl_Strange : flB K C_Strange = true)
    (ak_Strange : askB K C_Strange "Strange" = true)
    (ow_Strange : ownB K C_Strange "Strange" = true)
    (aC_BadDeed : PySem.W.nsIn K mainGlobals "BadDeed" = some (some (.ref C_BadDeed)))
    (xL_BadDeed : K.lookup C_BadDeed = some (excClassObj nm_BadDeed "BadDeed" C_BadDeed N_BadDeed bs_BadDeed bmValue true sn_BadDeed sub_BadDeed ab_BadDeed col_BadDeed dd_BadDeed m0_BadDeed m1_BadDeed m2_BadDeed m3_BadDeed m5_BadDeed "ValueError.__new__"))
    (sa_BadDeed : PySem.W.findIn K (.ref C_BadDeed) "__setattr__" = some (some (.builtin "object.__setattr__")))
    (ga_BadDeed : PySem.W.findIn K (.ref C_BadDeed) "__getattribute__" = some (some (.builtin "BaseException.__getattribute__")))
    (gg_BadDeed : PySem.W.findIn K (.ref C_BadDeed) "__getattr__" = some none)
    (gc_BadDeed : PySem.W.findIn K (.ref C_BadDeed) "__class__" = some (some (.builtin "object.__class__")))
    (sg_BadDeed : PySem.W.specialIn K (.builtin "object.__class__") "__get__" = some (some (.builtin "getset_descriptor.__get__")))
    (tg_BadDeed : PySem.W.takesIn K (.builtin "object.__class__") = some true)
    (mo_BadDeed : PySem.W.mroIn K C_BadDeed (.type "object") = some true)
    (i1_BadDeed : PySem.W.findIn K (.ref C_BadDeed) "__init__" = some (some (.ref f_BadDeed)))
    (t1_BadDeed : PySem.W.typeIn K (.ref f_BadDeed) = some (.type "function"))
    (l1_BadDeed : K.lookup f_BadDeed = some ⟨oc_BadDeed, od_BadDeed, .func (PySem.W.fnOf "__init__" "BadDeed.__init__" (defArgs (initOf (top 9))) (defBody (initOf (top 9))) (defScope (initOf (top 9))) .none kV_BadDeed dc_BadDeed pm_BadDeed an_BadDeed cd_BadDeed ct_BadDeed), sl_BadDeed⟩)
    (c1_BadDeed : PySem.W.codeIn K cd_BadDeed "BadDeed.__init__" = true)
    (k1_BadDeed : PySem.W.keepIn K (.ref f_BadDeed) = true)
    (kC_BadDeed : PySem.W.keepIn K (.ref C_BadDeed) = true)
    (eC_BadDeed : PySem.W.subIn K (.ref C_BadDeed) (.type "BaseException") = some true)
    (tC_BadDeed : PySem.W.typeIn K (.ref C_BadDeed) = some (.type "type"))
    (hC_BadDeed : PySem.W.hasDictIn K C_BadDeed = true)
    (fl_BadDeed : flB K C_BadDeed = true)
    (ak_BadDeed : askB K C_BadDeed "BadDeed" = true)
    (ow_BadDeed : ownB K C_BadDeed "BadDeed" = true)
    (aC_BadText : PySem.W.nsIn K mainGlobals "BadText" = some (some (.ref C_BadText)))
    (xL_BadText : K.lookup C_BadText = some (excClassObj nm_BadText "BadText" C_BadText N_BadText bs_BadText bmValue true sn_BadText sub_BadText ab_BadText col_BadText dd_BadText m0_BadText m1_BadText m2_BadText m3_BadText m5_BadText "ValueError.__new__"))
    (sa_BadText : PySem.W.findIn K (.ref C_BadText) "__setattr__" = some (some (.builtin "object.__setattr__")))
    (ga_BadText : PySem.W.findIn K (.ref C_BadText) "__getattribute__" = some (some (.builtin "BaseException.__getattribute__")))
    (gg_BadText : PySem.W.findIn K (.ref C_BadText) "__getattr__" = some none)
    (gc_BadText : PySem.W.findIn K (.ref C_BadText) "__class__" = some (some (.builtin "object.__class__")))
    (sg_BadText : PySem.W.specialIn K (.builtin "object.__class__") "__get__" = some (some (.builtin "getset_descriptor.__get__")))
    (tg_BadText : PySem.W.takesIn K (.builtin "object.__class__") = some true)
    (mo_BadText : PySem.W.mroIn K C_BadText (.type "object") = some true)
    (i1_BadText : PySem.W.findIn K (.ref C_BadText) "__init__" = some (some (.ref f_BadText)))
    (t1_BadText : PySem.W.typeIn K (.ref f_BadText) = some (.type "function"))
    (l1_BadText : K.lookup f_BadText = some ⟨oc_BadText, od_BadText, .func (PySem.W.fnOf "__init__" "BadText.__init__" (defArgs (initOf (top 10))) (defBody (initOf (top 10))) (defScope (initOf (top 10))) .none kV_BadText dc_BadText pm_BadText an_BadText cd_BadText ct_BadText), sl_BadText⟩)
    (c1_BadText : PySem.W.codeIn K cd_BadText "BadText.__init__" = true)
    (k1_BadText : PySem.W.keepIn K (.ref f_BadText) = true)
    (kC_BadText : PySem.W.keepIn K (.ref C_BadText) = true)
    (eC_BadText : PySem.W.subIn K (.ref C_BadText) (.type "BaseException") = some true)
    (tC_BadText : PySem.W.typeIn K (.ref C_BadText) = some (.type "type"))
    (hC_BadText : PySem.W.hasDictIn K C_BadText = true)
    (fl_BadText : flB K C_BadText = true)
    (ak_BadText : askB K C_BadText "BadText" = true)
    (ow_BadText : ownB K C_BadText "BadText" = true)
    (aC_BadLine : PySem.W.nsIn K mainGlobals "BadLine" = some (some (.ref C_BadLine)))
    (xL_BadLine : K.lookup C_BadLine = some (excClassObj nm_BadLine "BadLine" C_BadLine N_BadLine bs_BadLine bmValue true sn_BadLine sub_BadLine ab_BadLine col_BadLine dd_BadLine m0_BadLine m1_BadLine m2_BadLine m3_BadLine m5_BadLine "ValueError.__new__"))
    (sa_BadLine : PySem.W.findIn K (.ref C_BadLine) "__setattr__" = some (some (.builtin "object.__setattr__")))
    (ga_BadLine : PySem.W.findIn K (.ref C_BadLine) "__getattribute__" = some (some (.builtin "BaseException.__getattribute__")))
    (gg_BadLine : PySem.W.findIn K (.ref C_BadLine) "__getattr__" = some none)
    (gc_BadLine : PySem.W.findIn K (.ref C_BadLine) "__class__" = some (some (.builtin "object.__class__")))
    (sg_BadLine : PySem.W.specialIn K (.builtin "object.__class__") "__get__" = some (some (.builtin "getset_descriptor.__get__")))
    (tg_BadLine : PySem.W.takesIn K (.builtin "object.__class__") = some true)
    (mo_BadLine : PySem.W.mroIn K C_BadLine (.type "object") = some true)
    (i1_BadLine : PySem.W.findIn K (.ref C_BadLine) "__init__" = some (some (.ref f_BadLine)))
    (t1_BadLine : PySem.W.typeIn K (.ref f_BadLine) = some (.type "function"))
    (l1_BadLine : K.lookup f_BadLine = some ⟨oc_BadLine, od_BadLine, .func (PySem.W.fnOf "__init__" "BadLine.__init__" (defArgs (initOf (top 11))) (defBody (initOf (top 11))) (defScope (initOf (top 11))) .none kV_BadLine dc_BadLine pm_BadLine an_BadLine cd_BadLine ct_BadLine), sl_BadLine⟩)
    (c1_BadLine : PySem.W.codeIn K cd_BadLine "BadLine.__init__" = true)
    (k1_BadLine : PySem.W.keepIn K (.ref f_BadLine) = true)
    (kC_BadLine : PySem.W.keepIn K (.ref C_BadLine) = true)
    (eC_BadLine : PySem.W.subIn K (.ref C_BadLine) (.type "BaseException") = some true)
    (tC_BadLine : PySem.W.typeIn K (.ref C_BadLine) = some (.type "type"))
    (hC_BadLine : PySem.W.hasDictIn K C_BadLine = true)
    (fl_BadLine : flB K C_BadLine = true)
    (ak_BadLine : askB K C_BadLine "BadLine" = true)
    (ow_BadLine : ownB K C_BadLine "BadLine" = true)
    (aC_Unlike : PySem.W.nsIn K mainGlobals "Unlike" = some (some (.ref C_Unlike)))
    (xL_Unlike : K.lookup C_Unlike = some (excClassObj nm_Unlike "Unlike" C_Unlike N_Unlike bs_Unlike bmRuntime true sn_Unlike sub_Unlike ab_Unlike col_Unlike dd_Unlike m0_Unlike m1_Unlike m2_Unlike m3_Unlike m5_Unlike "RuntimeError.__new__"))
    (sa_Unlike : PySem.W.findIn K (.ref C_Unlike) "__setattr__" = some (some (.builtin "object.__setattr__")))
    (ga_Unlike : PySem.W.findIn K (.ref C_Unlike) "__getattribute__" = some (some (.builtin "BaseException.__getattribute__")))
    (gg_Unlike : PySem.W.findIn K (.ref C_Unlike) "__getattr__" = some none)
    (gc_Unlike : PySem.W.findIn K (.ref C_Unlike) "__class__" = some (some (.builtin "object.__class__")))
    (sg_Unlike : PySem.W.specialIn K (.builtin "object.__class__") "__get__" = some (some (.builtin "getset_descriptor.__get__")))
    (tg_Unlike : PySem.W.takesIn K (.builtin "object.__class__") = some true)
    (mo_Unlike : PySem.W.mroIn K C_Unlike (.type "object") = some true)
    (i1_Unlike : PySem.W.findIn K (.ref C_Unlike) "__init__" = some (some (.ref f_Unlike)))
    (t1_Unlike : PySem.W.typeIn K (.ref f_Unlike) = some (.type "function"))
    (l1_Unlike : K.lookup f_Unlike = some ⟨oc_Unlike, od_Unlike, .func (PySem.W.fnOf "__init__" "Unlike.__init__" (defArgs (initOf (top 12))) (defBody (initOf (top 12))) (defScope (initOf (top 12))) .none kV_Unlike dc_Unlike pm_Unlike an_Unlike cd_Unlike ct_Unlike), sl_Unlike⟩)
    (c1_Unlike : PySem.W.codeIn K cd_Unlike "Unlike.__init__" = true)
    (k1_Unlike : PySem.W.keepIn K (.ref f_Unlike) = true)
    (kC_Unlike : PySem.W.keepIn K (.ref C_Unlike) = true)
    (eC_Unlike : PySem.W.subIn K (.ref C_Unlike) (.type "BaseException") = some true)
    (tC_Unlike : PySem.W.typeIn K (.ref C_Unlike) = some (.type "type"))
    (hC_Unlike : PySem.W.hasDictIn K C_Unlike = true)
    (fl_Unlike : flB K C_Unlike = true)
    (ak_Unlike : askB K C_Unlike "Unlike" = true)
    (ow_Unlike : ownB K C_Unlike "Unlike" = true)
    (aC_Odd : PySem.W.nsIn K mainGlobals "Odd" = some (some (.ref C_Odd)))
    (xL_Odd : K.lookup C_Odd = some (excClassObj nm_Odd "Odd" C_Odd N_Odd bs_Odd bmRuntime true sn_Odd sub_Odd ab_Odd col_Odd dd_Odd m0_Odd m1_Odd m2_Odd m3_Odd m5_Odd "RuntimeError.__new__"))
    (sa_Odd : PySem.W.findIn K (.ref C_Odd) "__setattr__" = some (some (.builtin "object.__setattr__")))
    (ga_Odd : PySem.W.findIn K (.ref C_Odd) "__getattribute__" = some (some (.builtin "BaseException.__getattribute__")))
    (gg_Odd : PySem.W.findIn K (.ref C_Odd) "__getattr__" = some none)
    (gc_Odd : PySem.W.findIn K (.ref C_Odd) "__class__" = some (some (.builtin "object.__class__")))
    (sg_Odd : PySem.W.specialIn K (.builtin "object.__class__") "__get__" = some (some (.builtin "getset_descriptor.__get__")))
    (tg_Odd : PySem.W.takesIn K (.builtin "object.__class__") = some true)
    (mo_Odd : PySem.W.mroIn K C_Odd (.type "object") = some true)
    (i1_Odd : PySem.W.findIn K (.ref C_Odd) "__init__" = some (some (.ref f_Odd)))
    (t1_Odd : PySem.W.typeIn K (.ref f_Odd) = some (.type "function"))
    (l1_Odd : K.lookup f_Odd = some ⟨oc_Odd, od_Odd, .func (PySem.W.fnOf "__init__" "Odd.__init__" (defArgs (initOf (top 13))) (defBody (initOf (top 13))) (defScope (initOf (top 13))) .none kV_Odd dc_Odd pm_Odd an_Odd cd_Odd ct_Odd), sl_Odd⟩)
    (c1_Odd : PySem.W.codeIn K cd_Odd "Odd.__init__" = true)
    (k1_Odd : PySem.W.keepIn K (.ref f_Odd) = true)
    (kC_Odd : PySem.W.keepIn K (.ref C_Odd) = true)
    (eC_Odd : PySem.W.subIn K (.ref C_Odd) (.type "BaseException") = some true)
    (tC_Odd : PySem.W.typeIn K (.ref C_Odd) = some (.type "type"))
    (hC_Odd : PySem.W.hasDictIn K C_Odd = true)
    (fl_Odd : flB K C_Odd = true)
    (ak_Odd : askB K C_Odd "Odd" = true)
    (ow_Odd : ownB K C_Odd "Odd" = true)
    (aC_Barred : PySem.W.nsIn K mainGlobals "Barred" = some (some (.ref C_Barred)))
    (xL_Barred : K.lookup C_Barred = some (excClassObj nm_Barred "Barred" C_Barred N_Barred bs_Barred bmRuntime true sn_Barred sub_Barred ab_Barred col_Barred dd_Barred m0_Barred m1_Barred m2_Barred m3_Barred m5_Barred "RuntimeError.__new__"))
    (sa_Barred : PySem.W.findIn K (.ref C_Barred) "__setattr__" = some (some (.builtin "object.__setattr__")))
    (ga_Barred : PySem.W.findIn K (.ref C_Barred) "__getattribute__" = some (some (.builtin "BaseException.__getattribute__")))
    (gg_Barred : PySem.W.findIn K (.ref C_Barred) "__getattr__" = some none)
    (gc_Barred : PySem.W.findIn K (.ref C_Barred) "__class__" = some (some (.builtin "object.__class__")))
    (sg_Barred : PySem.W.specialIn K (.builtin "object.__class__") "__get__" = some (some (.builtin "getset_descriptor.__get__")))
    (tg_Barred : PySem.W.takesIn K (.builtin "object.__class__") = some true)
    (mo_Barred : PySem.W.mroIn K C_Barred (.type "object") = some true)
    (i1_Barred : PySem.W.findIn K (.ref C_Barred) "__init__" = some (some (.ref f_Barred)))
    (t1_Barred : PySem.W.typeIn K (.ref f_Barred) = some (.type "function"))
    (l1_Barred : K.lookup f_Barred = some ⟨oc_Barred, od_Barred, .func (PySem.W.fnOf "__init__" "Barred.__init__" (defArgs (initOf (top 14))) (defBody (initOf (top 14))) (defScope (initOf (top 14))) .none kV_Barred dc_Barred pm_Barred an_Barred cd_Barred ct_Barred), sl_Barred⟩)
    (c1_Barred : PySem.W.codeIn K cd_Barred "Barred.__init__" = true)
    (k1_Barred : PySem.W.keepIn K (.ref f_Barred) = true)
    (kC_Barred : PySem.W.keepIn K (.ref C_Barred) = true)
    (eC_Barred : PySem.W.subIn K (.ref C_Barred) (.type "BaseException") = some true)
    (tC_Barred : PySem.W.typeIn K (.ref C_Barred) = some (.type "type"))
    (hC_Barred : PySem.W.hasDictIn K C_Barred = true)
    (fl_Barred : flB K C_Barred = true)
    (ak_Barred : askB K C_Barred "Barred" = true)
    (ow_Barred : ownB K C_Barred "Barred" = true)
    (aC_TooMany : PySem.W.nsIn K mainGlobals "TooMany" = some (some (.ref C_TooMany)))
    (xL_TooMany : K.lookup C_TooMany = some (excClassObj nm_TooMany "TooMany" C_TooMany N_TooMany bs_TooMany bmOverflow true sn_TooMany sub_TooMany ab_TooMany col_TooMany dd_TooMany m0_TooMany m1_TooMany m2_TooMany m3_TooMany m5_TooMany "OverflowError.__new__"))
    (sa_TooMany : PySem.W.findIn K (.ref C_TooMany) "__setattr__" = some (some (.builtin "object.__setattr__")))
    (ga_TooMany : PySem.W.findIn K (.ref C_TooMany) "__getattribute__" = some (some (.builtin "BaseException.__getattribute__")))
    (gg_TooMany : PySem.W.findIn K (.ref C_TooMany) "__getattr__" = some none)
    (gc_TooMany : PySem.W.findIn K (.ref C_TooMany) "__class__" = some (some (.builtin "object.__class__")))
    (sg_TooMany : PySem.W.specialIn K (.builtin "object.__class__") "__get__" = some (some (.builtin "getset_descriptor.__get__")))
    (tg_TooMany : PySem.W.takesIn K (.builtin "object.__class__") = some true)
    (mo_TooMany : PySem.W.mroIn K C_TooMany (.type "object") = some true)
    (i1_TooMany : PySem.W.findIn K (.ref C_TooMany) "__init__" = some (some (.ref f_TooMany)))
    (t1_TooMany : PySem.W.typeIn K (.ref f_TooMany) = some (.type "function"))
    (l1_TooMany : K.lookup f_TooMany = some ⟨oc_TooMany, od_TooMany, .func (PySem.W.fnOf "__init__" "TooMany.__init__" (defArgs (initOf (top 15))) (defBody (initOf (top 15))) (defScope (initOf (top 15))) .none kV_TooMany dc_TooMany pm_TooMany an_TooMany cd_TooMany ct_TooMany), sl_TooMany⟩)
    (c1_TooMany : PySem.W.codeIn K cd_TooMany "TooMany.__init__" = true)
    (k1_TooMany : PySem.W.keepIn K (.ref f_TooMany) = true)
    (kC_TooMany : PySem.W.keepIn K (.ref C_TooMany) = true)
    (eC_TooMany : PySem.W.subIn K (.ref C_TooMany) (.type "BaseException") = some true)
    (tC_TooMany : PySem.W.typeIn K (.ref C_TooMany) = some (.type "type"))
    (hC_TooMany : PySem.W.hasDictIn K C_TooMany = true)
    (fl_TooMany : flB K C_TooMany = true)
    (ak_TooMany : askB K C_TooMany "TooMany" = true)
    (ow_TooMany : ownB K C_TooMany "TooMany" = true)
    (aC_Full : PySem.W.nsIn K mainGlobals "Full" = some (some (.ref C_Full)))
    (xL_Full : K.lookup C_Full = some (excClassObj nm_Full "Full" C_Full N_Full bs_Full bmOverflow true sn_Full sub_Full ab_Full col_Full dd_Full m0_Full m1_Full m2_Full m3_Full m5_Full "OverflowError.__new__"))
    (sa_Full : PySem.W.findIn K (.ref C_Full) "__setattr__" = some (some (.builtin "object.__setattr__")))
    (ga_Full : PySem.W.findIn K (.ref C_Full) "__getattribute__" = some (some (.builtin "BaseException.__getattribute__")))
    (gg_Full : PySem.W.findIn K (.ref C_Full) "__getattr__" = some none)
    (gc_Full : PySem.W.findIn K (.ref C_Full) "__class__" = some (some (.builtin "object.__class__")))
    (sg_Full : PySem.W.specialIn K (.builtin "object.__class__") "__get__" = some (some (.builtin "getset_descriptor.__get__")))
    (tg_Full : PySem.W.takesIn K (.builtin "object.__class__") = some true)
    (mo_Full : PySem.W.mroIn K C_Full (.type "object") = some true)
    (i1_Full : PySem.W.findIn K (.ref C_Full) "__init__" = some (some (.ref f_Full)))
    (t1_Full : PySem.W.typeIn K (.ref f_Full) = some (.type "function"))
    (l1_Full : K.lookup f_Full = some ⟨oc_Full, od_Full, .func (PySem.W.fnOf "__init__" "Full.__init__" (defArgs (initOf (top 16))) (defBody (initOf (top 16))) (defScope (initOf (top 16))) .none kV_Full dc_Full pm_Full an_Full cd_Full ct_Full), sl_Full⟩)
    (c1_Full : PySem.W.codeIn K cd_Full "Full.__init__" = true)
    (k1_Full : PySem.W.keepIn K (.ref f_Full) = true)
    (kC_Full : PySem.W.keepIn K (.ref C_Full) = true)
    (eC_Full : PySem.W.subIn K (.ref C_Full) (.type "BaseException") = some true)
    (tC_Full : PySem.W.typeIn K (.ref C_Full) = some (.type "type"))
    (hC_Full : PySem.W.hasDictIn K C_Full = true)
    (fl_Full : flB K C_Full = true)
    (ak_Full : askB K C_Full "Full" = true)
    (ow_Full : ownB K C_Full "Full" = true)
    (bC_NoStone : PySem.W.nsIn K mainGlobals "NoStone" = some (some (.ref S_NoStone)))
    (bn_NoStone : clsNm K S_NoStone = some "NoStone")
    (bt_NoStone : PySem.W.typeIn K (.ref S_NoStone) = some (.type "type"))
    (be_NoStone : PySem.W.subIn K (.ref S_NoStone) (.type "BaseException") = some true)
    (bp_NoStone : plB K S_NoStone = true)
    (bC_NoPlace : PySem.W.nsIn K mainGlobals "NoPlace" = some (some (.ref S_NoPlace)))
    (bn_NoPlace : clsNm K S_NoPlace = some "NoPlace")
    (bt_NoPlace : PySem.W.typeIn K (.ref S_NoPlace) = some (.type "type"))
    (be_NoPlace : PySem.W.subIn K (.ref S_NoPlace) (.type "BaseException") = some true)
    (bp_NoPlace : plB K S_NoPlace = true)
    (bC_NoNumber : PySem.W.nsIn K mainGlobals "NoNumber" = some (some (.ref S_NoNumber)))
    (bn_NoNumber : clsNm K S_NoNumber = some "NoNumber")
    (bt_NoNumber : PySem.W.typeIn K (.ref S_NoNumber) = some (.type "type"))
    (be_NoNumber : PySem.W.subIn K (.ref S_NoNumber) (.type "BaseException") = some true)
    (bp_NoNumber : plB K S_NoNumber = true)
    (bC_NoDeed : PySem.W.nsIn K mainGlobals "NoDeed" = some (some (.ref S_NoDeed)))
    (bn_NoDeed : clsNm K S_NoDeed = some "NoDeed")
    (bt_NoDeed : PySem.W.typeIn K (.ref S_NoDeed) = some (.type "type"))
    (be_NoDeed : PySem.W.subIn K (.ref S_NoDeed) (.type "BaseException") = some true)
    (bp_NoDeed : plB K S_NoDeed = true)
    (bC_NoCut : PySem.W.nsIn K mainGlobals "NoCut" = some (some (.ref S_NoCut)))
    (bn_NoCut : clsNm K S_NoCut = some "NoCut")
    (bt_NoCut : PySem.W.typeIn K (.ref S_NoCut) = some (.type "type"))
    (be_NoCut : PySem.W.subIn K (.ref S_NoCut) (.type "BaseException") = some true)
    (bp_NoCut : plB K S_NoCut = true)
    (bC_NoHeap : PySem.W.nsIn K mainGlobals "NoHeap" = some (some (.ref S_NoHeap)))
    (bn_NoHeap : clsNm K S_NoHeap = some "NoHeap")
    (bt_NoHeap : PySem.W.typeIn K (.ref S_NoHeap) = some (.type "type"))
    (be_NoHeap : PySem.W.subIn K (.ref S_NoHeap) (.type "BaseException") = some true)
    (bp_NoHeap : plB K S_NoHeap = true)
    (bC_Clash : PySem.W.nsIn K mainGlobals "Clash" = some (some (.ref S_Clash)))
    (bn_Clash : clsNm K S_Clash = some "Clash")
    (bt_Clash : PySem.W.typeIn K (.ref S_Clash) = some (.type "type"))
    (be_Clash : PySem.W.subIn K (.ref S_Clash) (.type "BaseException") = some true)
    (bp_Clash : plB K S_Clash = true)
    (bC_Strange : PySem.W.nsIn K mainGlobals "Strange" = some (some (.ref S_Strange)))
    (bn_Strange : clsNm K S_Strange = some "Strange")
    (bt_Strange : PySem.W.typeIn K (.ref S_Strange) = some (.type "type"))
    (be_Strange : PySem.W.subIn K (.ref S_Strange) (.type "BaseException") = some true)
    (bp_Strange : plB K S_Strange = true)
    (bC_BadDeed : PySem.W.nsIn K mainGlobals "BadDeed" = some (some (.ref S_BadDeed)))
    (bn_BadDeed : clsNm K S_BadDeed = some "BadDeed")
    (bt_BadDeed : PySem.W.typeIn K (.ref S_BadDeed) = some (.type "type"))
    (be_BadDeed : PySem.W.subIn K (.ref S_BadDeed) (.type "BaseException") = some true)
    (bp_BadDeed : plB K S_BadDeed = true)
    (bC_BadText : PySem.W.nsIn K mainGlobals "BadText" = some (some (.ref S_BadText)))
    (bn_BadText : clsNm K S_BadText = some "BadText")
    (bt_BadText : PySem.W.typeIn K (.ref S_BadText) = some (.type "type"))
    (be_BadText : PySem.W.subIn K (.ref S_BadText) (.type "BaseException") = some true)
    (bp_BadText : plB K S_BadText = true)
    (bC_BadLine : PySem.W.nsIn K mainGlobals "BadLine" = some (some (.ref S_BadLine)))
    (bn_BadLine : clsNm K S_BadLine = some "BadLine")
    (bt_BadLine : PySem.W.typeIn K (.ref S_BadLine) = some (.type "type"))
    (be_BadLine : PySem.W.subIn K (.ref S_BadLine) (.type "BaseException") = some true)
    (bp_BadLine : plB K S_BadLine = true)
    (bC_Unlike : PySem.W.nsIn K mainGlobals "Unlike" = some (some (.ref S_Unlike)))
    (bn_Unlike : clsNm K S_Unlike = some "Unlike")
    (bt_Unlike : PySem.W.typeIn K (.ref S_Unlike) = some (.type "type"))
    (be_Unlike : PySem.W.subIn K (.ref S_Unlike) (.type "BaseException") = some true)
    (bp_Unlike : plB K S_Unlike = true)
    (bC_Odd : PySem.W.nsIn K mainGlobals "Odd" = some (some (.ref S_Odd)))
    (bn_Odd : clsNm K S_Odd = some "Odd")
    (bt_Odd : PySem.W.typeIn K (.ref S_Odd) = some (.type "type"))
    (be_Odd : PySem.W.subIn K (.ref S_Odd) (.type "BaseException") = some true)
    (bp_Odd : plB K S_Odd = true)
    (bC_Barred : PySem.W.nsIn K mainGlobals "Barred" = some (some (.ref S_Barred)))
    (bn_Barred : clsNm K S_Barred = some "Barred")
    (bt_Barred : PySem.W.typeIn K (.ref S_Barred) = some (.type "type"))
    (be_Barred : PySem.W.subIn K (.ref S_Barred) (.type "BaseException") = some true)
    (bp_Barred : plB K S_Barred = true)
    (bC_TooMany : PySem.W.nsIn K mainGlobals "TooMany" = some (some (.ref S_TooMany)))
    (bn_TooMany : clsNm K S_TooMany = some "TooMany")
    (bt_TooMany : PySem.W.typeIn K (.ref S_TooMany) = some (.type "type"))
    (be_TooMany : PySem.W.subIn K (.ref S_TooMany) (.type "BaseException") = some true)
    (bp_TooMany : plB K S_TooMany = true)
    (bC_Full : PySem.W.nsIn K mainGlobals "Full" = some (some (.ref S_Full)))
    (bn_Full : clsNm K S_Full = some "Full")
    (bt_Full : PySem.W.typeIn K (.ref S_Full) = some (.type "type"))
    (be_Full : PySem.W.subIn K (.ref S_Full) (.type "BaseException") = some true)
    (bp_Full : plB K S_Full = true)
    : ∃ fd : FuncData, Binds K fd ["_law_script"] [] ∧ ∀ base : Heap, K.In base → base.Ns mainGlobals mg → FnG P W K mg base 63 fa fd ["_law_script"] (spLaw 63) := by
  have T := all_mk X G hfa a0 l0 c0 k0 a1 l1 c1 k1 a2 l2 c2 k2 a3 l3 c3 k3 a4 l4 c4 k4 a5 l5 c5 k5 z_KeyError z_LookupError z_NotImplementedError z_OverflowError z_RuntimeError z_ValueError z_abs z_all z_bool z_enumerate z_int z_isinstance z_len z_list z_range z_str z_tuple z_zip aC_NoStone xL_NoStone sa_NoStone ga_NoStone gg_NoStone gc_NoStone sg_NoStone tg_NoStone mo_NoStone i1_NoStone t1_NoStone l1_NoStone c1_NoStone k1_NoStone kC_NoStone eC_NoStone tC_NoStone hC_NoStone fl_NoStone ak_NoStone ow_NoStone aC_NoPlace xL_NoPlace sa_NoPlace ga_NoPlace gg_NoPlace gc_NoPlace sg_NoPlace tg_NoPlace mo_NoPlace i1_NoPlace t1_NoPlace l1_NoPlace c1_NoPlace k1_NoPlace kC_NoPlace eC_NoPlace tC_NoPlace hC_NoPlace fl_NoPlace ak_NoPlace ow_NoPlace aC_NoNumber xL_NoNumber sa_NoNumber ga_NoNumber gg_NoNumber gc_NoNumber sg_NoNumber tg_NoNumber mo_NoNumber i1_NoNumber t1_NoNumber l1_NoNumber c1_NoNumber k1_NoNumber kC_NoNumber eC_NoNumber tC_NoNumber hC_NoNumber fl_NoNumber ak_NoNumber ow_NoNumber aC_NoDeed xL_NoDeed sa_NoDeed ga_NoDeed gg_NoDeed gc_NoDeed sg_NoDeed tg_NoDeed mo_NoDeed i1_NoDeed t1_NoDeed l1_NoDeed c1_NoDeed k1_NoDeed kC_NoDeed eC_NoDeed tC_NoDeed hC_NoDeed fl_NoDeed ak_NoDeed ow_NoDeed aC_NoCut xL_NoCut sa_NoCut ga_NoCut gg_NoCut gc_NoCut sg_NoCut tg_NoCut mo_NoCut i1_NoCut t1_NoCut l1_NoCut c1_NoCut k1_NoCut kC_NoCut eC_NoCut tC_NoCut hC_NoCut fl_NoCut ak_NoCut ow_NoCut aC_NoHeap xL_NoHeap sa_NoHeap ga_NoHeap gg_NoHeap gc_NoHeap sg_NoHeap tg_NoHeap mo_NoHeap i1_NoHeap t1_NoHeap l1_NoHeap c1_NoHeap k1_NoHeap kC_NoHeap eC_NoHeap tC_NoHeap hC_NoHeap fl_NoHeap ak_NoHeap ow_NoHeap aC_Clash xL_Clash sa_Clash ga_Clash gg_Clash gc_Clash sg_Clash tg_Clash mo_Clash i1_Clash t1_Clash l1_Clash c1_Clash k1_Clash kC_Clash eC_Clash tC_Clash hC_Clash fl_Clash ak_Clash ow_Clash aC_Strange xL_Strange sa_Strange ga_Strange gg_Strange gc_Strange sg_Strange tg_Strange mo_Strange i1_Strange t1_Strange l1_Strange c1_Strange k1_Strange kC_Strange eC_Strange tC_Strange hC_Strange fl_Strange ak_Strange ow_Strange aC_BadDeed xL_BadDeed sa_BadDeed ga_BadDeed gg_BadDeed gc_BadDeed sg_BadDeed tg_BadDeed mo_BadDeed i1_BadDeed t1_BadDeed l1_BadDeed c1_BadDeed k1_BadDeed kC_BadDeed eC_BadDeed tC_BadDeed hC_BadDeed fl_BadDeed ak_BadDeed ow_BadDeed aC_BadText xL_BadText sa_BadText ga_BadText gg_BadText gc_BadText sg_BadText tg_BadText mo_BadText i1_BadText t1_BadText l1_BadText c1_BadText k1_BadText kC_BadText eC_BadText tC_BadText hC_BadText fl_BadText ak_BadText ow_BadText aC_BadLine xL_BadLine sa_BadLine ga_BadLine gg_BadLine gc_BadLine sg_BadLine tg_BadLine mo_BadLine i1_BadLine t1_BadLine l1_BadLine c1_BadLine k1_BadLine kC_BadLine eC_BadLine tC_BadLine hC_BadLine fl_BadLine ak_BadLine ow_BadLine aC_Unlike xL_Unlike sa_Unlike ga_Unlike gg_Unlike gc_Unlike sg_Unlike tg_Unlike mo_Unlike i1_Unlike t1_Unlike l1_Unlike c1_Unlike k1_Unlike kC_Unlike eC_Unlike tC_Unlike hC_Unlike fl_Unlike ak_Unlike ow_Unlike aC_Odd xL_Odd sa_Odd ga_Odd gg_Odd gc_Odd sg_Odd tg_Odd mo_Odd i1_Odd t1_Odd l1_Odd c1_Odd k1_Odd kC_Odd eC_Odd tC_Odd hC_Odd fl_Odd ak_Odd ow_Odd aC_Barred xL_Barred sa_Barred ga_Barred gg_Barred gc_Barred sg_Barred tg_Barred mo_Barred i1_Barred t1_Barred l1_Barred c1_Barred k1_Barred kC_Barred eC_Barred tC_Barred hC_Barred fl_Barred ak_Barred ow_Barred aC_TooMany xL_TooMany sa_TooMany ga_TooMany gg_TooMany gc_TooMany sg_TooMany tg_TooMany mo_TooMany i1_TooMany t1_TooMany l1_TooMany c1_TooMany k1_TooMany kC_TooMany eC_TooMany tC_TooMany hC_TooMany fl_TooMany ak_TooMany ow_TooMany aC_Full xL_Full sa_Full ga_Full gg_Full gc_Full sg_Full tg_Full mo_Full i1_Full t1_Full l1_Full c1_Full k1_Full kC_Full eC_Full tC_Full hC_Full fl_Full ak_Full ow_Full bC_NoStone bn_NoStone bt_NoStone be_NoStone bp_NoStone bC_NoPlace bn_NoPlace bt_NoPlace be_NoPlace bp_NoPlace bC_NoNumber bn_NoNumber bt_NoNumber be_NoNumber bp_NoNumber bC_NoDeed bn_NoDeed bt_NoDeed be_NoDeed bp_NoDeed bC_NoCut bn_NoCut bt_NoCut be_NoCut bp_NoCut bC_NoHeap bn_NoHeap bt_NoHeap be_NoHeap bp_NoHeap bC_Clash bn_Clash bt_Clash be_Clash bp_Clash bC_Strange bn_Strange bt_Strange be_Strange bp_Strange bC_BadDeed bn_BadDeed bt_BadDeed be_BadDeed bp_BadDeed bC_BadText bn_BadText bt_BadText be_BadText bp_BadText bC_BadLine bn_BadLine bt_BadLine be_BadLine bp_BadLine bC_Unlike bn_Unlike bt_Unlike be_Unlike bp_Unlike bC_Odd bn_Odd bt_Odd be_Odd bp_Odd bC_Barred bn_Barred bt_Barred be_Barred bp_Barred bC_TooMany bn_TooMany bt_TooMany be_TooMany bp_TooMany bC_Full bn_Full bt_Full be_Full bp_Full
  obtain ⟨f, fd, h1, h2, h3, h4⟩ := T.d_law_v81.ex
  have e := hfa.symm.trans h1
  cases e
  exact ⟨fd, h3, fun base _ _ => law_fn (g_law_v81 T _ fd h4) pure_law⟩
end G
open PySem PySem.W PyProof.Rows in
set_option maxRecDepth 100000 in
set_option maxHeartbeats 0 in
theorem PySem.Challenge.cw_twinheaps_k91_errors_made_holds : PySem.Challenge.rw_twinheaps_k91_errors_made.Holds := by
  w_on; o_law; k_head; (case hw => w_witness2)
  k_fill
  refine VI.law_end (l := PySem.Challenge.rw_twinheaps_k91_errors_made) (n := 63) (k := 63) (x := "_law_script") rfl (by decide) rfl ⟨rfl, by decide, by decide⟩ (fun w h Y => PySem.W.kIn_of Y) (fun w => ?hL) ?F
  case hL => rfl
  case F =>
    intro w mg fa h KX GG hmg
    refine' G.gend KX GG hmg ?a0 ?l0 ?c0 ?k0 ?a1 ?l1 ?c1 ?k1 ?a2 ?l2 ?c2 ?k2 ?a3 ?l3 ?c3 ?k3 ?a4 ?l4 ?c4 ?k4 ?a5 ?l5 ?c5 ?k5 ?z_KeyError ?z_LookupError ?z_NotImplementedError ?z_OverflowError ?z_RuntimeError ?z_ValueError ?z_abs ?z_all ?z_bool ?z_enumerate ?z_int ?z_isinstance ?z_len ?z_list ?z_range ?z_str ?z_tuple ?z_zip ?aC_NoStone ?xL_NoStone ?sa_NoStone ?ga_NoStone ?gg_NoStone ?gc_NoStone ?sg_NoStone ?tg_NoStone ?mo_NoStone ?i1_NoStone ?t1_NoStone ?l1_NoStone ?c1_NoStone ?k1_NoStone ?kC_NoStone ?eC_NoStone ?tC_NoStone ?hC_NoStone ?fl_NoStone ?ak_NoStone ?ow_NoStone ?aC_NoPlace ?xL_NoPlace ?sa_NoPlace ?ga_NoPlace ?gg_NoPlace ?gc_NoPlace ?sg_NoPlace ?tg_NoPlace ?mo_NoPlace ?i1_NoPlace ?t1_NoPlace ?l1_NoPlace ?c1_NoPlace ?k1_NoPlace ?kC_NoPlace ?eC_NoPlace ?tC_NoPlace ?hC_NoPlace ?fl_NoPlace ?ak_NoPlace ?ow_NoPlace ?aC_NoNumber ?xL_NoNumber ?sa_NoNumber ?ga_NoNumber ?gg_NoNumber ?gc_NoNumber ?sg_NoNumber ?tg_NoNumber ?mo_NoNumber ?i1_NoNumber ?t1_NoNumber ?l1_NoNumber ?c1_NoNumber ?k1_NoNumber ?kC_NoNumber ?eC_NoNumber ?tC_NoNumber ?hC_NoNumber ?fl_NoNumber ?ak_NoNumber ?ow_NoNumber ?aC_NoDeed ?xL_NoDeed ?sa_NoDeed ?ga_NoDeed ?gg_NoDeed ?gc_NoDeed ?sg_NoDeed ?tg_NoDeed ?mo_NoDeed ?i1_NoDeed ?t1_NoDeed ?l1_NoDeed ?c1_NoDeed ?k1_NoDeed ?kC_NoDeed ?eC_NoDeed ?tC_NoDeed ?hC_NoDeed ?fl_NoDeed ?ak_NoDeed ?ow_NoDeed ?aC_NoCut ?xL_NoCut ?sa_NoCut ?ga_NoCut ?gg_NoCut ?gc_NoCut ?sg_NoCut ?tg_NoCut ?mo_NoCut ?i1_NoCut ?t1_NoCut ?l1_NoCut ?c1_NoCut ?k1_NoCut ?kC_NoCut ?eC_NoCut ?tC_NoCut ?hC_NoCut ?fl_NoCut ?ak_NoCut ?ow_NoCut ?aC_NoHeap ?xL_NoHeap ?sa_NoHeap ?ga_NoHeap ?gg_NoHeap ?gc_NoHeap ?sg_NoHeap ?tg_NoHeap ?mo_NoHeap ?i1_NoHeap ?t1_NoHeap ?l1_NoHeap ?c1_NoHeap ?k1_NoHeap ?kC_NoHeap ?eC_NoHeap ?tC_NoHeap ?hC_NoHeap ?fl_NoHeap ?ak_NoHeap ?ow_NoHeap ?aC_Clash ?xL_Clash ?sa_Clash ?ga_Clash ?gg_Clash ?gc_Clash ?sg_Clash ?tg_Clash ?mo_Clash ?i1_Clash ?t1_Clash ?l1_Clash ?c1_Clash ?k1_Clash ?kC_Clash ?eC_Clash ?tC_Clash ?hC_Clash ?fl_Clash ?ak_Clash ?ow_Clash ?aC_Strange ?xL_Strange ?sa_Strange ?ga_Strange ?gg_Strange ?gc_Strange ?sg_Strange ?tg_Strange ?mo_Strange ?i1_Strange ?t1_Strange ?l1_Strange ?c1_Strange ?k1_Strange ?kC_Strange ?eC_Strange ?tC_Strange ?hC_Strange ?fl_Strange ?ak_Strange ?ow_Strange ?aC_BadDeed ?xL_BadDeed ?sa_BadDeed ?ga_BadDeed ?gg_BadDeed ?gc_BadDeed ?sg_BadDeed ?tg_BadDeed ?mo_BadDeed ?i1_BadDeed ?t1_BadDeed ?l1_BadDeed ?c1_BadDeed ?k1_BadDeed ?kC_BadDeed ?eC_BadDeed ?tC_BadDeed ?hC_BadDeed ?fl_BadDeed ?ak_BadDeed ?ow_BadDeed ?aC_BadText ?xL_BadText ?sa_BadText ?ga_BadText ?gg_BadText ?gc_BadText ?sg_BadText ?tg_BadText ?mo_BadText ?i1_BadText ?t1_BadText ?l1_BadText ?c1_BadText ?k1_BadText ?kC_BadText ?eC_BadText ?tC_BadText ?hC_BadText ?fl_BadText ?ak_BadText ?ow_BadText ?aC_BadLine ?xL_BadLine ?sa_BadLine ?ga_BadLine ?gg_BadLine ?gc_BadLine ?sg_BadLine ?tg_BadLine ?mo_BadLine ?i1_BadLine ?t1_BadLine ?l1_BadLine ?c1_BadLine ?k1_BadLine ?kC_BadLine ?eC_BadLine ?tC_BadLine ?hC_BadLine ?fl_BadLine ?ak_BadLine ?ow_BadLine ?aC_Unlike ?xL_Unlike ?sa_Unlike ?ga_Unlike ?gg_Unlike ?gc_Unlike ?sg_Unlike ?tg_Unlike ?mo_Unlike ?i1_Unlike ?t1_Unlike ?l1_Unlike ?c1_Unlike ?k1_Unlike ?kC_Unlike ?eC_Unlike ?tC_Unlike ?hC_Unlike ?fl_Unlike ?ak_Unlike ?ow_Unlike ?aC_Odd ?xL_Odd ?sa_Odd ?ga_Odd ?gg_Odd ?gc_Odd ?sg_Odd ?tg_Odd ?mo_Odd ?i1_Odd ?t1_Odd ?l1_Odd ?c1_Odd ?k1_Odd ?kC_Odd ?eC_Odd ?tC_Odd ?hC_Odd ?fl_Odd ?ak_Odd ?ow_Odd ?aC_Barred ?xL_Barred ?sa_Barred ?ga_Barred ?gg_Barred ?gc_Barred ?sg_Barred ?tg_Barred ?mo_Barred ?i1_Barred ?t1_Barred ?l1_Barred ?c1_Barred ?k1_Barred ?kC_Barred ?eC_Barred ?tC_Barred ?hC_Barred ?fl_Barred ?ak_Barred ?ow_Barred ?aC_TooMany ?xL_TooMany ?sa_TooMany ?ga_TooMany ?gg_TooMany ?gc_TooMany ?sg_TooMany ?tg_TooMany ?mo_TooMany ?i1_TooMany ?t1_TooMany ?l1_TooMany ?c1_TooMany ?k1_TooMany ?kC_TooMany ?eC_TooMany ?tC_TooMany ?hC_TooMany ?fl_TooMany ?ak_TooMany ?ow_TooMany ?aC_Full ?xL_Full ?sa_Full ?ga_Full ?gg_Full ?gc_Full ?sg_Full ?tg_Full ?mo_Full ?i1_Full ?t1_Full ?l1_Full ?c1_Full ?k1_Full ?kC_Full ?eC_Full ?tC_Full ?hC_Full ?fl_Full ?ak_Full ?ow_Full ?bC_NoStone ?bn_NoStone ?bt_NoStone ?be_NoStone ?bp_NoStone ?bC_NoPlace ?bn_NoPlace ?bt_NoPlace ?be_NoPlace ?bp_NoPlace ?bC_NoNumber ?bn_NoNumber ?bt_NoNumber ?be_NoNumber ?bp_NoNumber ?bC_NoDeed ?bn_NoDeed ?bt_NoDeed ?be_NoDeed ?bp_NoDeed ?bC_NoCut ?bn_NoCut ?bt_NoCut ?be_NoCut ?bp_NoCut ?bC_NoHeap ?bn_NoHeap ?bt_NoHeap ?be_NoHeap ?bp_NoHeap ?bC_Clash ?bn_Clash ?bt_Clash ?be_Clash ?bp_Clash ?bC_Strange ?bn_Strange ?bt_Strange ?be_Strange ?bp_Strange ?bC_BadDeed ?bn_BadDeed ?bt_BadDeed ?be_BadDeed ?bp_BadDeed ?bC_BadText ?bn_BadText ?bt_BadText ?be_BadText ?bp_BadText ?bC_BadLine ?bn_BadLine ?bt_BadLine ?be_BadLine ?bp_BadLine ?bC_Unlike ?bn_Unlike ?bt_Unlike ?be_Unlike ?bp_Unlike ?bC_Odd ?bn_Odd ?bt_Odd ?be_Odd ?bp_Odd ?bC_Barred ?bn_Barred ?bt_Barred ?be_Barred ?bp_Barred ?bC_TooMany ?bn_TooMany ?bt_TooMany ?be_TooMany ?bp_TooMany ?bC_Full ?bn_Full ?bt_Full ?be_Full ?bp_Full
    (case a0 => k_is)
    (case l0 => k_is)
    (case c0 => k_is)
    (case k0 => k_is)
    (case a1 => k_is)
    (case l1 => k_is)
    (case c1 => k_is)
    (case k1 => k_is)
    (case a2 => k_is)
    (case l2 => k_is)
    (case c2 => k_is)
    (case k2 => k_is)
    (case a3 => k_is)
    (case l3 => k_is)
    (case c3 => k_is)
    (case k3 => k_is)
    (case a4 => k_is)
    (case l4 => k_is)
    (case c4 => k_is)
    (case k4 => k_is)
    (case a5 => k_is)
    (case l5 => k_is)
    (case c5 => k_is)
    (case k5 => k_is)
    (case z_KeyError => k_is)
    (case z_LookupError => k_is)
    (case z_NotImplementedError => k_is)
    (case z_OverflowError => k_is)
    (case z_RuntimeError => k_is)
    (case z_ValueError => k_is)
    (case z_abs => k_is)
    (case z_all => k_is)
    (case z_bool => k_is)
    (case z_enumerate => k_is)
    (case z_int => k_is)
    (case z_isinstance => k_is)
    (case z_len => k_is)
    (case z_list => k_is)
    (case z_range => k_is)
    (case z_str => k_is)
    (case z_tuple => k_is)
    (case z_zip => k_is)
    (case aC_NoStone => k_is)
    (case xL_NoStone => k_is)
    (case sa_NoStone => k_is)
    (case ga_NoStone => k_is)
    (case gg_NoStone => k_is)
    (case gc_NoStone => k_is)
    (case sg_NoStone => k_is)
    (case tg_NoStone => k_is)
    (case mo_NoStone => k_is)
    (case i1_NoStone => k_is)
    (case t1_NoStone => k_is)
    (case l1_NoStone => k_is)
    (case c1_NoStone => k_is)
    (case k1_NoStone => k_is)
    (case kC_NoStone => k_is)
    (case eC_NoStone => k_is)
    (case tC_NoStone => k_is)
    (case hC_NoStone => k_is)
    (case fl_NoStone => first | rfl | k_is | decide +kernel)
    (case ak_NoStone => first | rfl | k_is | decide +kernel)
    (case ow_NoStone => first | rfl | k_is | decide +kernel)
    (case aC_NoPlace => k_is)
    (case xL_NoPlace => k_is)
    (case sa_NoPlace => k_is)
    (case ga_NoPlace => k_is)
    (case gg_NoPlace => k_is)
    (case gc_NoPlace => k_is)
    (case sg_NoPlace => k_is)
    (case tg_NoPlace => k_is)
    (case mo_NoPlace => k_is)
    (case i1_NoPlace => k_is)
    (case t1_NoPlace => k_is)
    (case l1_NoPlace => k_is)
    (case c1_NoPlace => k_is)
    (case k1_NoPlace => k_is)
    (case kC_NoPlace => k_is)
    (case eC_NoPlace => k_is)
    (case tC_NoPlace => k_is)
    (case hC_NoPlace => k_is)
    (case fl_NoPlace => first | rfl | k_is | decide +kernel)
    (case ak_NoPlace => first | rfl | k_is | decide +kernel)
    (case ow_NoPlace => first | rfl | k_is | decide +kernel)
    (case aC_NoNumber => k_is)
    (case xL_NoNumber => k_is)
    (case sa_NoNumber => k_is)
    (case ga_NoNumber => k_is)
    (case gg_NoNumber => k_is)
    (case gc_NoNumber => k_is)
    (case sg_NoNumber => k_is)
    (case tg_NoNumber => k_is)
    (case mo_NoNumber => k_is)
    (case i1_NoNumber => k_is)
    (case t1_NoNumber => k_is)
    (case l1_NoNumber => k_is)
    (case c1_NoNumber => k_is)
    (case k1_NoNumber => k_is)
    (case kC_NoNumber => k_is)
    (case eC_NoNumber => k_is)
    (case tC_NoNumber => k_is)
    (case hC_NoNumber => k_is)
    (case fl_NoNumber => first | rfl | k_is | decide +kernel)
    (case ak_NoNumber => first | rfl | k_is | decide +kernel)
    (case ow_NoNumber => first | rfl | k_is | decide +kernel)
    (case aC_NoDeed => k_is)
    (case xL_NoDeed => k_is)
    (case sa_NoDeed => k_is)
    (case ga_NoDeed => k_is)
    (case gg_NoDeed => k_is)
    (case gc_NoDeed => k_is)
    (case sg_NoDeed => k_is)
    (case tg_NoDeed => k_is)
    (case mo_NoDeed => k_is)
    (case i1_NoDeed => k_is)
    (case t1_NoDeed => k_is)
    (case l1_NoDeed => k_is)
    (case c1_NoDeed => k_is)
    (case k1_NoDeed => k_is)
    (case kC_NoDeed => k_is)
    (case eC_NoDeed => k_is)
    (case tC_NoDeed => k_is)
    (case hC_NoDeed => k_is)
    (case fl_NoDeed => first | rfl | k_is | decide +kernel)
    (case ak_NoDeed => first | rfl | k_is | decide +kernel)
    (case ow_NoDeed => first | rfl | k_is | decide +kernel)
    (case aC_NoCut => k_is)
    (case xL_NoCut => k_is)
    (case sa_NoCut => k_is)
    (case ga_NoCut => k_is)
    (case gg_NoCut => k_is)
    (case gc_NoCut => k_is)
    (case sg_NoCut => k_is)
    (case tg_NoCut => k_is)
    (case mo_NoCut => k_is)
    (case i1_NoCut => k_is)
    (case t1_NoCut => k_is)
    (case l1_NoCut => k_is)
    (case c1_NoCut => k_is)
    (case k1_NoCut => k_is)
    (case kC_NoCut => k_is)
    (case eC_NoCut => k_is)
    (case tC_NoCut => k_is)
    (case hC_NoCut => k_is)
    (case fl_NoCut => first | rfl | k_is | decide +kernel)
    (case ak_NoCut => first | rfl | k_is | decide +kernel)
    (case ow_NoCut => first | rfl | k_is | decide +kernel)
    (case aC_NoHeap => k_is)
    (case xL_NoHeap => k_is)
    (case sa_NoHeap => k_is)
    (case ga_NoHeap => k_is)
    (case gg_NoHeap => k_is)
    (case gc_NoHeap => k_is)
    (case sg_NoHeap => k_is)
    (case tg_NoHeap => k_is)
    (case mo_NoHeap => k_is)
    (case i1_NoHeap => k_is)
    (case t1_NoHeap => k_is)
    (case l1_NoHeap => k_is)
    (case c1_NoHeap => k_is)
    (case k1_NoHeap => k_is)
    (case kC_NoHeap => k_is)
    (case eC_NoHeap => k_is)
    (case tC_NoHeap => k_is)
    (case hC_NoHeap => k_is)
    (case fl_NoHeap => first | rfl | k_is | decide +kernel)
    (case ak_NoHeap => first | rfl | k_is | decide +kernel)
    (case ow_NoHeap => first | rfl | k_is | decide +kernel)
    (case aC_Clash => k_is)
    (case xL_Clash => k_is)
    (case sa_Clash => k_is)
    (case ga_Clash => k_is)
    (case gg_Clash => k_is)
    (case gc_Clash => k_is)
    (case sg_Clash => k_is)
    (case tg_Clash => k_is)
    (case mo_Clash => k_is)
    (case i1_Clash => k_is)
    (case t1_Clash => k_is)
    (case l1_Clash => k_is)
    (case c1_Clash => k_is)
    (case k1_Clash => k_is)
    (case kC_Clash => k_is)
    (case eC_Clash => k_is)
    (case tC_Clash => k_is)
    (case hC_Clash => k_is)
    (case fl_Clash => first | rfl | k_is | decide +kernel)
    (case ak_Clash => first | rfl | k_is | decide +kernel)
    (case ow_Clash => first | rfl | k_is | decide +kernel)
    (case aC_Strange => k_is)
    (case xL_Strange => k_is)
    (case sa_Strange => k_is)
    (case ga_Strange => k_is)
    (case gg_Strange => k_is)
    (case gc_Strange => k_is)
    (case sg_Strange => k_is)
    (case tg_Strange => k_is)
    (case mo_Strange => k_is)
    (case i1_Strange => k_is)
    (case t1_Strange => k_is)
    (case l1_Strange => k_is)
    (case c1_Strange => k_is)
    (case k1_Strange => k_is)
    (case kC_Strange => k_is)
    (case eC_Strange => k_is)
    (case tC_Strange => k_is)
    (case hC_Strange => k_is)
    (case fl_Strange => first | rfl | k_is | decide +kernel)
    (case ak_Strange => first | rfl | k_is | decide +kernel)
    (case ow_Strange => first | rfl | k_is | decide +kernel)
    (case aC_BadDeed => k_is)
    (case xL_BadDeed => k_is)
    (case sa_BadDeed => k_is)
    (case ga_BadDeed => k_is)
    (case gg_BadDeed => k_is)
    (case gc_BadDeed => k_is)
    (case sg_BadDeed => k_is)
    (case tg_BadDeed => k_is)
    (case mo_BadDeed => k_is)
    (case i1_BadDeed => k_is)
    (case t1_BadDeed => k_is)
    (case l1_BadDeed => k_is)
    (case c1_BadDeed => k_is)
    (case k1_BadDeed => k_is)
    (case kC_BadDeed => k_is)
    (case eC_BadDeed => k_is)
    (case tC_BadDeed => k_is)
    (case hC_BadDeed => k_is)
    (case fl_BadDeed => first | rfl | k_is | decide +kernel)
    (case ak_BadDeed => first | rfl | k_is | decide +kernel)
    (case ow_BadDeed => first | rfl | k_is | decide +kernel)
    (case aC_BadText => k_is)
    (case xL_BadText => k_is)
    (case sa_BadText => k_is)
    (case ga_BadText => k_is)
    (case gg_BadText => k_is)
    (case gc_BadText => k_is)
    (case sg_BadText => k_is)
    (case tg_BadText => k_is)
    (case mo_BadText => k_is)
    (case i1_BadText => k_is)
    (case t1_BadText => k_is)
    (case l1_BadText => k_is)
    (case c1_BadText => k_is)
    (case k1_BadText => k_is)
    (case kC_BadText => k_is)
    (case eC_BadText => k_is)
    (case tC_BadText => k_is)
    (case hC_BadText => k_is)
    (case fl_BadText => first | rfl | k_is | decide +kernel)
    (case ak_BadText => first | rfl | k_is | decide +kernel)
    (case ow_BadText => first | rfl | k_is | decide +kernel)
    (case aC_BadLine => k_is)
    (case xL_BadLine => k_is)
    (case sa_BadLine => k_is)
    (case ga_BadLine => k_is)
    (case gg_BadLine => k_is)
    (case gc_BadLine => k_is)
    (case sg_BadLine => k_is)
    (case tg_BadLine => k_is)
    (case mo_BadLine => k_is)
    (case i1_BadLine => k_is)
    (case t1_BadLine => k_is)
    (case l1_BadLine => k_is)
    (case c1_BadLine => k_is)
    (case k1_BadLine => k_is)
    (case kC_BadLine => k_is)
    (case eC_BadLine => k_is)
    (case tC_BadLine => k_is)
    (case hC_BadLine => k_is)
    (case fl_BadLine => first | rfl | k_is | decide +kernel)
    (case ak_BadLine => first | rfl | k_is | decide +kernel)
    (case ow_BadLine => first | rfl | k_is | decide +kernel)
    (case aC_Unlike => k_is)
    (case xL_Unlike => k_is)
    (case sa_Unlike => k_is)
    (case ga_Unlike => k_is)
    (case gg_Unlike => k_is)
    (case gc_Unlike => k_is)
    (case sg_Unlike => k_is)
    (case tg_Unlike => k_is)
    (case mo_Unlike => k_is)
    (case i1_Unlike => k_is)
    (case t1_Unlike => k_is)
    (case l1_Unlike => k_is)
    (case c1_Unlike => k_is)
    (case k1_Unlike => k_is)
    (case kC_Unlike => k_is)
    (case eC_Unlike => k_is)
    (case tC_Unlike => k_is)
    (case hC_Unlike => k_is)
    (case fl_Unlike => first | rfl | k_is | decide +kernel)
    (case ak_Unlike => first | rfl | k_is | decide +kernel)
    (case ow_Unlike => first | rfl | k_is | decide +kernel)
    (case aC_Odd => k_is)
    (case xL_Odd => k_is)
    (case sa_Odd => k_is)
    (case ga_Odd => k_is)
    (case gg_Odd => k_is)
    (case gc_Odd => k_is)
    (case sg_Odd => k_is)
    (case tg_Odd => k_is)
    (case mo_Odd => k_is)
    (case i1_Odd => k_is)
    (case t1_Odd => k_is)
    (case l1_Odd => k_is)
    (case c1_Odd => k_is)
    (case k1_Odd => k_is)
    (case kC_Odd => k_is)
    (case eC_Odd => k_is)
    (case tC_Odd => k_is)
    (case hC_Odd => k_is)
    (case fl_Odd => first | rfl | k_is | decide +kernel)
    (case ak_Odd => first | rfl | k_is | decide +kernel)
    (case ow_Odd => first | rfl | k_is | decide +kernel)
    (case aC_Barred => k_is)
    (case xL_Barred => k_is)
    (case sa_Barred => k_is)
    (case ga_Barred => k_is)
    (case gg_Barred => k_is)
    (case gc_Barred => k_is)
    (case sg_Barred => k_is)
    (case tg_Barred => k_is)
    (case mo_Barred => k_is)
    (case i1_Barred => k_is)
    (case t1_Barred => k_is)
    (case l1_Barred => k_is)
    (case c1_Barred => k_is)
    (case k1_Barred => k_is)
    (case kC_Barred => k_is)
    (case eC_Barred => k_is)
    (case tC_Barred => k_is)
    (case hC_Barred => k_is)
    (case fl_Barred => first | rfl | k_is | decide +kernel)
    (case ak_Barred => first | rfl | k_is | decide +kernel)
    (case ow_Barred => first | rfl | k_is | decide +kernel)
    (case aC_TooMany => k_is)
    (case xL_TooMany => k_is)
    (case sa_TooMany => k_is)
    (case ga_TooMany => k_is)
    (case gg_TooMany => k_is)
    (case gc_TooMany => k_is)
    (case sg_TooMany => k_is)
    (case tg_TooMany => k_is)
    (case mo_TooMany => k_is)
    (case i1_TooMany => k_is)
    (case t1_TooMany => k_is)
    (case l1_TooMany => k_is)
    (case c1_TooMany => k_is)
    (case k1_TooMany => k_is)
    (case kC_TooMany => k_is)
    (case eC_TooMany => k_is)
    (case tC_TooMany => k_is)
    (case hC_TooMany => k_is)
    (case fl_TooMany => first | rfl | k_is | decide +kernel)
    (case ak_TooMany => first | rfl | k_is | decide +kernel)
    (case ow_TooMany => first | rfl | k_is | decide +kernel)
    (case aC_Full => k_is)
    (case xL_Full => k_is)
    (case sa_Full => k_is)
    (case ga_Full => k_is)
    (case gg_Full => k_is)
    (case gc_Full => k_is)
    (case sg_Full => k_is)
    (case tg_Full => k_is)
    (case mo_Full => k_is)
    (case i1_Full => k_is)
    (case t1_Full => k_is)
    (case l1_Full => k_is)
    (case c1_Full => k_is)
    (case k1_Full => k_is)
    (case kC_Full => k_is)
    (case eC_Full => k_is)
    (case tC_Full => k_is)
    (case hC_Full => k_is)
    (case fl_Full => first | rfl | k_is | decide +kernel)
    (case ak_Full => first | rfl | k_is | decide +kernel)
    (case ow_Full => first | rfl | k_is | decide +kernel)
    (case bC_NoStone => k_is)
    (case bn_NoStone => first | rfl | k_is | decide +kernel)
    (case bt_NoStone => k_is)
    (case be_NoStone => k_is)
    (case bp_NoStone => first | rfl | k_is | decide +kernel)
    (case bC_NoPlace => k_is)
    (case bn_NoPlace => first | rfl | k_is | decide +kernel)
    (case bt_NoPlace => k_is)
    (case be_NoPlace => k_is)
    (case bp_NoPlace => first | rfl | k_is | decide +kernel)
    (case bC_NoNumber => k_is)
    (case bn_NoNumber => first | rfl | k_is | decide +kernel)
    (case bt_NoNumber => k_is)
    (case be_NoNumber => k_is)
    (case bp_NoNumber => first | rfl | k_is | decide +kernel)
    (case bC_NoDeed => k_is)
    (case bn_NoDeed => first | rfl | k_is | decide +kernel)
    (case bt_NoDeed => k_is)
    (case be_NoDeed => k_is)
    (case bp_NoDeed => first | rfl | k_is | decide +kernel)
    (case bC_NoCut => k_is)
    (case bn_NoCut => first | rfl | k_is | decide +kernel)
    (case bt_NoCut => k_is)
    (case be_NoCut => k_is)
    (case bp_NoCut => first | rfl | k_is | decide +kernel)
    (case bC_NoHeap => k_is)
    (case bn_NoHeap => first | rfl | k_is | decide +kernel)
    (case bt_NoHeap => k_is)
    (case be_NoHeap => k_is)
    (case bp_NoHeap => first | rfl | k_is | decide +kernel)
    (case bC_Clash => k_is)
    (case bn_Clash => first | rfl | k_is | decide +kernel)
    (case bt_Clash => k_is)
    (case be_Clash => k_is)
    (case bp_Clash => first | rfl | k_is | decide +kernel)
    (case bC_Strange => k_is)
    (case bn_Strange => first | rfl | k_is | decide +kernel)
    (case bt_Strange => k_is)
    (case be_Strange => k_is)
    (case bp_Strange => first | rfl | k_is | decide +kernel)
    (case bC_BadDeed => k_is)
    (case bn_BadDeed => first | rfl | k_is | decide +kernel)
    (case bt_BadDeed => k_is)
    (case be_BadDeed => k_is)
    (case bp_BadDeed => first | rfl | k_is | decide +kernel)
    (case bC_BadText => k_is)
    (case bn_BadText => first | rfl | k_is | decide +kernel)
    (case bt_BadText => k_is)
    (case be_BadText => k_is)
    (case bp_BadText => first | rfl | k_is | decide +kernel)
    (case bC_BadLine => k_is)
    (case bn_BadLine => first | rfl | k_is | decide +kernel)
    (case bt_BadLine => k_is)
    (case be_BadLine => k_is)
    (case bp_BadLine => first | rfl | k_is | decide +kernel)
    (case bC_Unlike => k_is)
    (case bn_Unlike => first | rfl | k_is | decide +kernel)
    (case bt_Unlike => k_is)
    (case be_Unlike => k_is)
    (case bp_Unlike => first | rfl | k_is | decide +kernel)
    (case bC_Odd => k_is)
    (case bn_Odd => first | rfl | k_is | decide +kernel)
    (case bt_Odd => k_is)
    (case be_Odd => k_is)
    (case bp_Odd => first | rfl | k_is | decide +kernel)
    (case bC_Barred => k_is)
    (case bn_Barred => first | rfl | k_is | decide +kernel)
    (case bt_Barred => k_is)
    (case be_Barred => k_is)
    (case bp_Barred => first | rfl | k_is | decide +kernel)
    (case bC_TooMany => k_is)
    (case bn_TooMany => first | rfl | k_is | decide +kernel)
    (case bt_TooMany => k_is)
    (case be_TooMany => k_is)
    (case bp_TooMany => first | rfl | k_is | decide +kernel)
    (case bC_Full => k_is)
    (case bn_Full => first | rfl | k_is | decide +kernel)
    (case bt_Full => k_is)
    (case be_Full => k_is)
    (case bp_Full => first | rfl | k_is | decide +kernel)
